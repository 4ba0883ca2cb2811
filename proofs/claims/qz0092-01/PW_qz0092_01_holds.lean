import PyProof.Rows.All
import Wide.All
import OpenK.AllK
import Wide.FinOn
import PySem.Challenge.RW_qz0092_01
set_option Elab.async false
set_option linter.all false
set_option compiler.extract_closed false
set_option genInjectivity false
set_option genSizeOfSpec false
set_option genSizeOf false
set_option maxRecDepth 100000
set_option maxHeartbeats 8000000
section
open PySem PySem.W PyProof.Rows
namespace Mine
noncomputable def view : Program := PySem.W.view PySem.Challenge.pw_qz0092_01 [0, 2, 3, 4, 5, 6, 7, 8, 9, 11, 12, 13, 14, 15, 16, 17, 18, 20, 22, 23, 24, 25, 26]
noncomputable def Arg1 {L W B : Prop} (_ : L ∧ W → B) : Prop := L
noncomputable def Arg2 {L W B : Prop} (_ : L ∧ W → B) : Prop := W
theorem saidF : PySem.W.Fast.tw9446332074065402090 PySem.Challenge.rw_qz0092_01 = true := by kernel_rfl
theorem said_t : OpenLaw.wellSaid PySem.Challenge.rw_qz0092_01 = true := (congrFun PySem.W.Fast.te9446332074065402090 _).trans saidF
theorem head9 (H : Hook) {d : DefRec} {kwd : List (Str × Expr)} (hdef : defOf view (OpenLaw.row PySem.Challenge.rw_qz0092_01).name = some (d, kwd)) (hp : (OpenLaw.row PySem.Challenge.rw_qz0092_01).prog.theDef (OpenLaw.row PySem.Challenge.rw_qz0092_01).name = some (d.params, d.body, d.scope)) (hk : kwWritten? d.params.kwonlyargs d.params.kw_defaults = some kwd)
    (hw : (OpenLaw.row PySem.Challenge.rw_qz0092_01).toRowW.promised)
    (hh : LeftO (OpenLaw.row PySem.Challenge.rw_qz0092_01).prog view [Str.ofString "Limits"] (fun s => xlAt view [] s && recOk (RowW.records (OpenRow.toRowW (OpenLaw.row PySem.Challenge.rw_qz0092_01))) s) H.obs H.val 7218 ∧
      WalkO view [Str.ofString "Limits"] (XL view []) H.says (OpenRow.toRowW (OpenLaw.row PySem.Challenge.rw_qz0092_01)) d kwd fun f vs => PySem.call f vs) : (OpenLaw.row PySem.Challenge.rw_qz0092_01).Holds :=
  PySem.W.holds_open hh.1 (Hook.of H) (Hook.keeps H) (fun s e => xl_of s (Bool.and_eq_true_iff.mp e).1) XL.keeps hdef hp hk (fun s e => recFacts_of (Bool.and_eq_true_iff.mp e).2) (by rfl) (row_said said_t) (by decide +kernel) ⟨rfl, rfl, rfl, rfl, rfl, by decide +kernel⟩ hw hh.2
section
set_option hygiene false in
local macro_rules | `(tactic| o_law) => `(tactic| refine PySem.W.holds_law Mine.said_t fun said => ?_)
set_option hygiene false in
local macro_rules | `(tactic| o_head (kmHook $K $a $_p $t)) => `(tactic| refine Mine.head9 (kmHook $K $a (fun _ => rfl) $t) (by rfl) (by rfl) (by rfl) ?hw ?hc)
open_top hd for PySem.Challenge.rw_qz0092_01
end
end Mine
end
section
open PySem PySem.W PyProof.Rows
namespace Mine
namespace Top
section
noncomputable abbrev pw : Program := PySem.Challenge.pw_qz0092_01
noncomputable abbrev R (n : Nat) : Value := .ref n
noncomputable abbrev I (n : Int) (k : Nat) : Value := .int n k
noncomputable abbrev S (x : String) (k : Nat) : Value := .str (Str.ofString x) k
noncomputable abbrev E (P : Params) (x : String) (k : Nat) (v : Value) : DictEntry := ⟨PyData.keyHash P (Str.ofString x), .str (Str.ofString x) k, v⟩
noncomputable abbrev F0 (l : List Value) : Obj := { cls := .none, data := .fields l.toArray }
noncomputable abbrev FT (t : String) (l : List Value) : Obj := { cls := .type t, data := .fields l.toArray }
noncomputable abbrev T0 : Obj := { cls := .type "tuple", data := .seq #[] }
noncomputable abbrev DD (n : Nat) (l : List DictEntry) : Obj := { cls := .type "dict", data := .dict l.toArray n }
noncomputable abbrev FR (l : List (Option Value)) : Obj := { cls := .type "frame", slots := l.toArray }
noncomputable def at_ : Nat → List (Nat × Obj) → Obj
  | _, [] => default
  | a, p :: l => match Nat.beq p.1 a with
    | true => p.2
    | false => at_ a l
noncomputable def k (P : Params) (a : Nat) : Obj := at_ a (hd.heap_1 P)
noncomputable def rc (P : Params) (a : Nat) : Obj := match (k P a).data with
  | .func f => { cls := .none, data := .func { f with globals := 0, pyModule := .none, code := .none } }
  | _ => default
noncomputable def rd (P : Params) (a : Nat) : Obj := match (k P a).data with
  | .func f => { cls := .none, data := .func { f with globals := 0, pyModule := .none, code := .none, defaults := .none, kwdefaults := .none } }
  | _ => default
noncomputable def garb (P : Params) : List (Nat × Obj) := [(0, boot_o_0 P),
 (1, boot_o_1 P),
 (4, boot_o_4 P),
 (5, boot_o_5 P),
 (6, boot_o_6 P),
 (7, boot_o_7 P),
 (8, boot_o_8 P),
 (9, boot_o_9 P),
 (10, boot_o_10 P),
 (11, T0),
 (12, F0 [I 1 0, I 0 0, R 20, I 5 0, I 0 0, R 27, I 14 0, I 0 0, R 48, I 20 0, I 0 0, R 67, I 26 0, I 0 0, R 86, I 33 0, I 0 0, R 105, I 41 0, I 0 0, R 124, I 50 0, I 0 0, R 143, I 55 0, I 0 0, R 165, I 81 0, I 0 0, R 228, I 85 0, I 0 0, R 249, I 92 0, I 0 0, R 254, I 104 0, I 0 0, R 261, I 121 0, I 0 0, R 266, I 127 0, I 0 0, R 273, I 211 0, I 0 0, R 369, I 213 0, I 0 0, R 376, I 226 0, I 0 0, R 383, I 235 0, I 0 0, R 405, I 238 0, I 0 0, R 412, I 244 0, I 0 0, R 419, I 249 0, I 0 0, R 424, I 253 0, I 0 0, R 429]),
 (13, FT "code" [S "<module>" 182, S "<module>" 183, S "/claim/cut.py" 184, I 1 0, I 0 0, I 0 0, I 0 0, I 0 0, R 11, .bool false, I 181 0, R 12, .none, .none, .none, .none, I 185 0, I 1 0, S "/claim/cut.py" 186]),
 (14, FR [some (R 13), some (R 3), some (R 3), none, some (S "__main__" 164), none, some (R 0)]),
 (16, F0 []),
 (19, rc P 21),
 (22, T0),
 (23, FT "builtin_function_or_method" [Value.builtin "type.__prepare__", Value.type "type"]),
 (24, DD 5 [E P "__module__" 203 (S "perlcore.values" 194), E P "__qualname__" 205 (S "Thing" 204), E P "__firstlineno__" 207 (I 5 206), E P "__init__" 215 (R 35), E P "__static_attributes__" 222 (R 36)]),
 (25, T0),
 (26, F0 [I 7 0, I 4 0, R 34]),
 (27, FT "code" [S "Thing" 198, S "Thing" 199, S "/claim/cut.py" 200, I 5 0, I 0 0, I 0 0, I 0 0, I 0 0, R 25, .bool false, I 181 0, R 26, .none, .none, .none, .none, I 201 0, I 5 0, S "/claim/cut.py" 202]),
 (28, FR [some (R 27), some (R 3), some (R 24), none, some (S "perlcore.values" 194), none, some (R 0)]),
 (30, F0 []),
 (33, rc P 35),
 (41, FT "super" [R 38, R 38, R 38]),
 (42, FT "builtin_function_or_method" [Value.builtin "object.__init_subclass__", R 38]),
 (44, FT "builtin_function_or_method" [Value.builtin "type.__prepare__", Value.type "type"]),
 (45, DD 5 [E P "__module__" 237 (S "perlcore.values" 194), E P "__qualname__" 239 (S "Scalar" 238), E P "__firstlineno__" 241 (I 14 240), E P "__init__" 250 (R 56), E P "__static_attributes__" 253 (R 57)]),
 (46, T0),
 (47, F0 [I 16 0, I 4 0, R 55]),
 (48, FT "code" [S "Scalar" 232, S "Scalar" 233, S "/claim/cut.py" 234, I 14 0, I 0 0, I 0 0, I 0 0, I 0 0, R 46, .bool false, I 181 0, R 47, .none, .none, .none, .none, I 235 0, I 14 0, S "/claim/cut.py" 236]),
 (49, FR [some (R 48), some (R 3), some (R 45), none, some (S "perlcore.values" 194), none, some (R 0)]),
 (51, F0 []),
 (54, rc P 56),
 (60, FT "super" [R 59, R 59, R 59]),
 (61, FT "builtin_function_or_method" [Value.builtin "object.__init_subclass__", R 59]),
 (63, FT "builtin_function_or_method" [Value.builtin "type.__prepare__", Value.type "type"]),
 (64, DD 5 [E P "__module__" 264 (S "perlcore.values" 194), E P "__qualname__" 266 (S "Array" 265), E P "__firstlineno__" 268 (I 20 267), E P "__init__" 276 (R 75), E P "__static_attributes__" 279 (R 76)]),
 (65, T0),
 (66, F0 [I 22 0, I 4 0, R 74]),
 (67, FT "code" [S "Array" 259, S "Array" 260, S "/claim/cut.py" 261, I 20 0, I 0 0, I 0 0, I 0 0, I 0 0, R 65, .bool false, I 181 0, R 66, .none, .none, .none, .none, I 262 0, I 20 0, S "/claim/cut.py" 263]),
 (68, FR [some (R 67), some (R 3), some (R 64), none, some (S "perlcore.values" 194), none, some (R 0)]),
 (70, F0 []),
 (73, rc P 75),
 (79, FT "super" [R 78, R 78, R 78]),
 (80, FT "builtin_function_or_method" [Value.builtin "object.__init_subclass__", R 78]),
 (82, FT "builtin_function_or_method" [Value.builtin "type.__prepare__", Value.type "type"]),
 (83, DD 5 [E P "__module__" 290 (S "perlcore.values" 194), E P "__qualname__" 292 (S "Hash" 291), E P "__firstlineno__" 294 (I 26 293), E P "__init__" 302 (R 94), E P "__static_attributes__" 306 (R 95)]),
 (84, T0),
 (85, F0 [I 28 0, I 4 0, R 93]),
 (86, FT "code" [S "Hash" 285, S "Hash" 286, S "/claim/cut.py" 287, I 26 0, I 0 0, I 0 0, I 0 0, I 0 0, R 84, .bool false, I 181 0, R 85, .none, .none, .none, .none, I 288 0, I 26 0, S "/claim/cut.py" 289]),
 (87, FR [some (R 86), some (R 3), some (R 83), none, some (S "perlcore.values" 194), none, some (R 0)]),
 (89, F0 []),
 (92, rc P 94),
 (98, FT "super" [R 97, R 97, R 97]),
 (99, FT "builtin_function_or_method" [Value.builtin "object.__init_subclass__", R 97]),
 (101, FT "builtin_function_or_method" [Value.builtin "type.__prepare__", Value.type "type"]),
 (102, DD 5 [E P "__module__" 317 (S "perlcore.values" 194), E P "__qualname__" 319 (S "Code" 318), E P "__firstlineno__" 321 (I 33 320), E P "__init__" 331 (R 113), E P "__static_attributes__" 336 (R 114)]),
 (103, T0),
 (104, F0 [I 35 0, I 4 0, R 112]),
 (105, FT "code" [S "Code" 312, S "Code" 313, S "/claim/cut.py" 314, I 33 0, I 0 0, I 0 0, I 0 0, I 0 0, R 103, .bool false, I 181 0, R 104, .none, .none, .none, .none, I 315 0, I 33 0, S "/claim/cut.py" 316]),
 (106, FR [some (R 105), some (R 3), some (R 102), none, some (S "perlcore.values" 194), none, some (R 0)]),
 (108, F0 []),
 (111, rc P 113),
 (117, FT "super" [R 116, R 116, R 116]),
 (118, FT "builtin_function_or_method" [Value.builtin "object.__init_subclass__", R 116]),
 (120, FT "builtin_function_or_method" [Value.builtin "type.__prepare__", Value.type "type"]),
 (121, DD 5 [E P "__module__" 347 (S "perlcore.values" 194), E P "__qualname__" 349 (S "Glob" 348), E P "__firstlineno__" 351 (I 41 350), E P "__init__" 360 (R 132), E P "__static_attributes__" 366 (R 133)]),
 (122, T0),
 (123, F0 [I 43 0, I 4 0, R 131]),
 (124, FT "code" [S "Glob" 342, S "Glob" 343, S "/claim/cut.py" 344, I 41 0, I 0 0, I 0 0, I 0 0, I 0 0, R 122, .bool false, I 181 0, R 123, .none, .none, .none, .none, I 345 0, I 41 0, S "/claim/cut.py" 346]),
 (125, FR [some (R 124), some (R 3), some (R 121), none, some (S "perlcore.values" 194), none, some (R 0)]),
 (127, F0 []),
 (130, rc P 132),
 (136, FT "super" [R 135, R 135, R 135]),
 (137, FT "builtin_function_or_method" [Value.builtin "object.__init_subclass__", R 135]),
 (138, T0),
 (139, FT "builtin_function_or_method" [Value.builtin "type.__prepare__", Value.type "type"]),
 (140, DD 5 [E P "__module__" 377 (S "perlcore.values" 194), E P "__qualname__" 379 (S "Ref" 378), E P "__firstlineno__" 381 (I 50 380), E P "__init__" 390 (R 152), E P "__static_attributes__" 393 (R 153)]),
 (141, T0),
 (142, F0 [I 52 0, I 4 0, R 151]),
 (143, FT "code" [S "Ref" 372, S "Ref" 373, S "/claim/cut.py" 374, I 50 0, I 0 0, I 0 0, I 0 0, I 0 0, R 141, .bool false, I 181 0, R 142, .none, .none, .none, .none, I 375 0, I 50 0, S "/claim/cut.py" 376]),
 (144, FR [some (R 143), some (R 3), some (R 140), none, some (S "perlcore.values" 194), none, some (R 0)]),
 (147, F0 []),
 (150, rd P 152),
 (158, FT "super" [R 155, R 155, R 155]),
 (159, FT "builtin_function_or_method" [Value.builtin "object.__init_subclass__", R 155]),
 (160, T0),
 (161, FT "builtin_function_or_method" [Value.builtin "type.__prepare__", Value.type "type"]),
 (162, DD 11 [E P "__module__" 408 (S "perlcore.values" 194), E P "__qualname__" 410 (S "Heap" 409), E P "__firstlineno__" 412 (I 55 411), E P "__init__" 420 (R 173), E P "next_number" 427 (R 180), E P "new_scalar" 435 (R 187), E P "new_array" 442 (R 194), E P "new_hash" 449 (R 201), E P "new_code" 458 (R 208), E P "new_glob" 466 (R 215), E P "__static_attributes__" 470 (R 216)]),
 (163, T0),
 (164, F0 [I 57 0, I 4 0, R 172, I 62 0, I 4 0, R 179, I 66 0, I 4 0, R 186, I 69 0, I 4 0, R 193, I 72 0, I 4 0, R 200, I 75 0, I 4 0, R 207, I 78 0, I 4 0, R 214]),
 (165, FT "code" [S "Heap" 403, S "Heap" 404, S "/claim/cut.py" 405, I 55 0, I 0 0, I 0 0, I 0 0, I 0 0, R 163, .bool false, I 181 0, R 164, .none, .none, .none, .none, I 406 0, I 55 0, S "/claim/cut.py" 407]),
 (166, FR [some (R 165), some (R 3), some (R 162), none, some (S "perlcore.values" 194), none, some (R 0)]),
 (168, F0 []),
 (171, rc P 173),
 (175, F0 []),
 (178, rc P 180),
 (182, F0 []),
 (185, rc P 187),
 (189, F0 []),
 (192, rc P 194),
 (196, F0 []),
 (199, rc P 201),
 (203, F0 []),
 (206, rc P 208),
 (210, F0 []),
 (213, rc P 215),
 (221, FT "super" [R 218, R 218, R 218]),
 (222, FT "builtin_function_or_method" [Value.builtin "object.__init_subclass__", R 218]),
 (223, T0),
 (224, FT "builtin_function_or_method" [Value.builtin "type.__prepare__", Value.type "type"]),
 (225, DD 5 [E P "__module__" 487 (S "perlcore.counts" 478), E P "__qualname__" 489 (S "Tie" 488), E P "__firstlineno__" 491 (I 81 490), E P "__init__" 499 (R 236), E P "__static_attributes__" 501 (R 237)]),
 (226, T0),
 (227, F0 [I 83 0, I 4 0, R 235]),
 (228, FT "code" [S "Tie" 482, S "Tie" 483, S "/claim/cut.py" 484, I 81 0, I 0 0, I 0 0, I 0 0, I 0 0, R 226, .bool false, I 181 0, R 227, .none, .none, .none, .none, I 485 0, I 81 0, S "/claim/cut.py" 486]),
 (229, FR [some (R 228), some (R 3), some (R 225), none, some (S "perlcore.counts" 478), none, some (R 0)]),
 (231, F0 []),
 (234, rc P 236),
 (242, FT "super" [R 239, R 239, R 239]),
 (243, FT "builtin_function_or_method" [Value.builtin "object.__init_subclass__", R 239]),
 (245, F0 []),
 (248, rc P 250),
 (252, F0 []),
 (253, rc P 255),
 (257, F0 []),
 (260, rc P 262),
 (264, F0 []),
 (265, rc P 267),
 (268, T0),
 (269, FT "builtin_function_or_method" [Value.builtin "type.__prepare__", Value.type "type"]),
 (270, DD 16 [E P "__module__" 543 (S "perlcore.counts" 478), E P "__qualname__" 545 (S "Counter" 544), E P "__firstlineno__" 547 (I 127 546), E P "__init__" 556 (R 281), E P "hold" 564 (R 288), E P "let_go" 572 (R 295), E P "note" 580 (R 302), E P "take" 588 (R 309), E P "put_off" 594 (R 314), E P "store" 604 (R 321), E P "fresh" 612 (R 328), E P "drop" 620 (R 335), E P "settle" 630 (R 342), E P "finish" 638 (R 349), E P "free" 650 (R 356), E P "__static_attributes__" 655 (R 357)]),
 (271, T0),
 (272, F0 [I 129 0, I 4 0, R 280, I 135 0, I 4 0, R 287, I 138 0, I 4 0, R 294, I 143 0, I 4 0, R 301, I 146 0, I 4 0, R 308, I 154 0, I 4 0, R 313, I 162 0, I 4 0, R 320, I 172 0, I 4 0, R 327, I 175 0, I 4 0, R 334, I 178 0, I 4 0, R 341, I 188 0, I 4 0, R 348, I 196 0, I 4 0, R 355]),
 (273, FT "code" [S "Counter" 538, S "Counter" 539, S "/claim/cut.py" 540, I 127 0, I 0 0, I 0 0, I 0 0, I 0 0, R 271, .bool false, I 181 0, R 272, .none, .none, .none, .none, I 541 0, I 127 0, S "/claim/cut.py" 542]),
 (274, FR [some (R 273), some (R 3), some (R 270), none, some (S "perlcore.counts" 478), none, some (R 0)]),
 (276, F0 []),
 (279, rc P 281),
 (283, F0 []),
 (286, rc P 288),
 (290, F0 []),
 (293, rc P 295),
 (297, F0 []),
 (300, rc P 302),
 (304, F0 []),
 (307, rc P 309),
 (311, F0 []),
 (312, rc P 314),
 (316, F0 []),
 (319, rc P 321),
 (323, F0 []),
 (326, rc P 328),
 (330, F0 []),
 (333, rc P 335),
 (337, F0 []),
 (340, rc P 342),
 (344, F0 []),
 (347, rc P 349),
 (351, F0 []),
 (354, rc P 356),
 (362, FT "super" [R 359, R 359, R 359]),
 (363, FT "builtin_function_or_method" [Value.builtin "object.__init_subclass__", R 359]),
 (365, F0 []),
 (368, rc P 370),
 (372, F0 []),
 (375, rc P 377),
 (378, T0),
 (379, FT "builtin_function_or_method" [Value.builtin "type.__prepare__", Value.type "type"]),
 (380, DD 5 [E P "__module__" 691 (S "perlcore.limits" 682), E P "__qualname__" 693 (S "Limits" 692), E P "__firstlineno__" 695 (I 226 694), E P "__init__" 718 (R 392), E P "__static_attributes__" 724 (R 393)]),
 (381, T0),
 (382, F0 [I 228 0, I 4 0, R 391]),
 (383, FT "code" [S "Limits" 686, S "Limits" 687, S "/claim/cut.py" 688, I 226 0, I 0 0, I 0 0, I 0 0, I 0 0, R 381, .bool false, I 181 0, R 382, .none, .none, .none, .none, I 689 0, I 226 0, S "/claim/cut.py" 690]),
 (384, FR [some (R 383), some (R 3), some (R 380), none, some (S "perlcore.limits" 682), none, some (R 0)]),
 (387, F0 []),
 (390, rd P 392),
 (398, FT "super" [R 395, R 395, R 395]),
 (399, FT "builtin_function_or_method" [Value.builtin "object.__init_subclass__", R 395]),
 (401, F0 []),
 (404, rc P 406),
 (408, F0 []),
 (411, rc P 413),
 (415, F0 []),
 (418, rc P 420),
 (422, F0 []),
 (423, rc P 425),
 (427, F0 []),
 (428, rc P 430)]
noncomputable def mrg : Nat → List (Nat × Obj) → List (Nat × Obj) → List Obj
  | 0, _, _ => []
  | _ + 1, [], y => y.map (·.2)
  | _ + 1, x, [] => x.map (·.2)
  | n + 1, p :: x, q :: y => match Nat.blt p.1 q.1 with
    | true => p.2 :: mrg n x (q :: y)
    | false => q.2 :: mrg n (p :: x) y
noncomputable def objs (P : Params) : List Obj := mrg 500 (hd.heap_1 P) (garb P)
noncomputable def nth : Nat → List Obj → Obj
  | _, [] => default
  | 0, o :: _ => o
  | n + 1, _ :: l => nth n l
noncomputable def tk (P : Params) (a m : Nat) : Obj := match (nth a (objs P)).data with
  | .fields es => F0 (es.toList.take m)
  | _ => default
noncomputable def md (P : Params) (n m : Nat) (v : Value) : Obj := match (k P 3).data with
  | .dict es _ => match es.toList.take m with
    | e :: r => DD n ({ e with val := v } :: r)
    | _ => default
  | _ => default
noncomputable def sb (P : Params) (a m : Nat) : Obj := match k P a with
  | ⟨c, d, .cls x, sl⟩ => ⟨c, d, .cls { x with subclasses := x.subclasses.take m }, sl⟩
  | _ => default
noncomputable def put : List (Nat × Obj) → List Obj → List Obj
  | [], l => l
  | p :: r, l => put r (l.set p.1 p.2)
noncomputable def st (n : Nat) (v : List (Nat × Obj)) (P : Params) : List Obj := put v ((objs P).take n)
noncomputable def l0 (P : Params) : List Obj := st 15 [(3, md P 9 9 (S "__main__" 164)), (12, tk P 12 0)] P
noncomputable def l1 (P : Params) : List Obj := st 43 [(3, md P 11 11 (S "perlcore.values" 194)), (12, tk P 12 6), (38, sb P 38 0)] P
noncomputable def l2 (P : Params) : List Obj := st 62 [(3, md P 12 12 (S "perlcore.values" 194)), (12, tk P 12 9), (38, sb P 38 1)] P
noncomputable def l3 (P : Params) : List Obj := st 81 [(3, md P 13 13 (S "perlcore.values" 194)), (12, tk P 12 12), (38, sb P 38 2)] P
noncomputable def l4 (P : Params) : List Obj := st 100 [(3, md P 14 14 (S "perlcore.values" 194)), (12, tk P 12 15), (38, sb P 38 3)] P
noncomputable def l5 (P : Params) : List Obj := st 119 [(3, md P 15 15 (S "perlcore.values" 194)), (12, tk P 12 18), (38, sb P 38 4)] P
noncomputable def l6 (P : Params) : List Obj := st 138 [(3, md P 16 16 (S "perlcore.values" 194)), (12, tk P 12 21)] P
noncomputable def l7 (P : Params) : List Obj := st 160 [(3, md P 17 17 (S "perlcore.values" 194)), (12, tk P 12 24)] P
noncomputable def l8 (P : Params) : List Obj := st 223 [(3, md P 18 18 (S "perlcore.values" 194)), (12, tk P 12 27)] P
noncomputable def l9 (P : Params) : List Obj := st 268 [(3, md P 23 23 (S "perlcore.counts" 478)), (12, tk P 12 42)] P
noncomputable def l10 (P : Params) : List Obj := st 364 [(3, md P 24 24 (S "perlcore.counts" 478)), (12, tk P 12 45)] P
noncomputable def l11 (P : Params) : List Obj := st 414 [(3, md P 29 29 (S "law_qz0092_01" 732)), (12, tk P 12 60)] P
noncomputable def l12 (P : Params) : List Obj := st 431 [] P
noncomputable def ev : List Obj → List Obj × List Obj
  | [] => ([], [])
  | a :: l => (a :: (ev l).2, (ev l).1)
noncomputable def bt : Nat → List Obj → BT
  | 0, _ => .nil
  | _ + 1, [] => .nil
  | n + 1, o :: l => .node o (bt n (ev l).1) (bt n (ev l).2)
noncomputable def env : Env := { scope := pw.main.scope, locals := mainNs, globals := mainNs, cells := [], code := .ref 13, frame := some 14 }
noncomputable def bd : List Stmt := behindTheImports pw
noncomputable abbrev cE : Code := .body bd env
noncomputable abbrev q0 : Pos := ⟨0, 0, 0, 0⟩
noncomputable abbrev an : Option Value := some (.ref 6)
noncomputable abbrev sh (l : Params → List Obj) (n tk : Nat) (w : World) (os : OsState) : SharedT := ⟨bt 12 (l w.params), n, {}, #[], {}, tk, os⟩
noncomputable def sts (a n : Nat) : List Stmt := (bd.drop a).take n
theorem pre (w : World) : (fun os => topGo treeTable pw w 11 an 12 ⟨boot_heap w.params, Array.mk [], boot_drawn, boot_toks, os⟩ (topStub pw)) = fun os => some ((sh l0 15 187 w os).abs, (⟨denote treeTable cE, cE, q0, [topFrame q0]⟩ : Thread)) := by kernel_rfl
theorem block (w : World) : (fun os => segRunT treeTable pw w 11 an 1 1 (sh l0 15 187 w os) (blockOf bd env cE q0 [topFrame q0])) = fun os => some (.next, sh l0 15 187 w os, cE, q0) := by kernel_rfl
theorem segF (w : World) (n : Nat) (s : SharedT) (l : List Stmt) (p : Pos) : segRunT treeTable pw w 11 an 1 n s (piecesOf l env cE p [topFrame q0]) = PySem.W.Fast.tw10110043849684766642 PySem.W.Fast.tw14364793385576792824 pw w 11 an 1 n s ⟨(PySem.W.Fast.tw12563942051412417395 l env).wrap doneF deadEnd id id, cE, p, [topFrame q0]⟩ := by
  rw [← PySem.W.Fast.te10110043849684766642, ← PySem.W.Fast.te14364793385576792824, ← PySem.W.Fast.te12563942051412417395]
theorem p1 (w : World) : (fun os => PySem.W.Fast.tw10110043849684766642 PySem.W.Fast.tw14364793385576792824 pw w 11 an 1 266 (sh l0 15 187 w os) ⟨(PySem.W.Fast.tw12563942051412417395 (sts 0 3) env).wrap doneF deadEnd id id, cE, q0, [topFrame q0]⟩) = fun os => some (.next, sh l1 43 230 w os, cE, ⟨5, 0, 13, 29⟩) := by kernel_rfl
theorem p2 (w : World) : (fun os => PySem.W.Fast.tw10110043849684766642 PySem.W.Fast.tw14364793385576792824 pw w 11 an 1 248 (sh l1 43 230 w os) ⟨(PySem.W.Fast.tw12563942051412417395 (sts 3 1) env).wrap doneF deadEnd id id, cE, ⟨5, 0, 13, 29⟩, [topFrame q0]⟩) = fun os => some (.next, sh l2 62 257 w os, cE, ⟨14, 0, 19, 25⟩) := by kernel_rfl
theorem p3 (w : World) : (fun os => PySem.W.Fast.tw10110043849684766642 PySem.W.Fast.tw14364793385576792824 pw w 11 an 1 247 (sh l2 62 257 w os) ⟨(PySem.W.Fast.tw12563942051412417395 (sts 4 1) env).wrap doneF deadEnd id id, cE, ⟨14, 0, 19, 25⟩, [topFrame q0]⟩) = fun os => some (.next, sh l3 81 283 w os, cE, ⟨20, 0, 25, 24⟩) := by kernel_rfl
theorem p4 (w : World) : (fun os => PySem.W.Fast.tw10110043849684766642 PySem.W.Fast.tw14364793385576792824 pw w 11 an 1 248 (sh l3 81 283 w os) ⟨(PySem.W.Fast.tw12563942051412417395 (sts 5 1) env).wrap doneF deadEnd id id, cE, ⟨20, 0, 25, 24⟩, [topFrame q0]⟩) = fun os => some (.next, sh l4 100 310 w os, cE, ⟨26, 0, 32, 24⟩) := by kernel_rfl
theorem p5 (w : World) : (fun os => PySem.W.Fast.tw10110043849684766642 PySem.W.Fast.tw14364793385576792824 pw w 11 an 1 251 (sh l4 100 310 w os) ⟨(PySem.W.Fast.tw12563942051412417395 (sts 6 1) env).wrap doneF deadEnd id id, cE, ⟨26, 0, 32, 24⟩, [topFrame q0]⟩) = fun os => some (.next, sh l5 119 340 w os, cE, ⟨33, 0, 40, 29⟩) := by kernel_rfl
theorem p6 (w : World) : (fun os => PySem.W.Fast.tw10110043849684766642 PySem.W.Fast.tw14364793385576792824 pw w 11 an 1 251 (sh l5 119 340 w os) ⟨(PySem.W.Fast.tw12563942051412417395 (sts 7 1) env).wrap doneF deadEnd id id, cE, ⟨33, 0, 40, 29⟩, [topFrame q0]⟩) = fun os => some (.next, sh l6 138 370 w os, cE, ⟨41, 0, 49, 24⟩) := by kernel_rfl
theorem p7 (w : World) : (fun os => PySem.W.Fast.tw10110043849684766642 PySem.W.Fast.tw14364793385576792824 pw w 11 an 1 226 (sh l6 138 370 w os) ⟨(PySem.W.Fast.tw12563942051412417395 (sts 8 1) env).wrap doneF deadEnd id id, cE, ⟨41, 0, 49, 24⟩, [topFrame q0]⟩) = fun os => some (.next, sh l7 160 401 w os, cE, ⟨50, 0, 54, 30⟩) := by kernel_rfl
theorem p8 (w : World) : (fun os => PySem.W.Fast.tw10110043849684766642 PySem.W.Fast.tw14364793385576792824 pw w 11 an 1 415 (sh l7 160 401 w os) ⟨(PySem.W.Fast.tw12563942051412417395 (sts 9 1) env).wrap doneF deadEnd id id, cE, ⟨50, 0, 54, 30⟩, [topFrame q0]⟩) = fun os => some (.next, sh l8 223 478 w os, cE, ⟨55, 0, 79, 16⟩) := by kernel_rfl
theorem p9 (w : World) : (fun os => PySem.W.Fast.tw10110043849684766642 PySem.W.Fast.tw14364793385576792824 pw w 11 an 1 343 (sh l8 223 478 w os) ⟨(PySem.W.Fast.tw12563942051412417395 (sts 10 6) env).wrap doneF deadEnd id id, cE, ⟨55, 0, 79, 16⟩, [topFrame q0]⟩) = fun os => some (.next, sh l9 268 536 w os, cE, ⟨121, 0, 126, 54⟩) := by kernel_rfl
theorem p10 (w : World) : (fun os => PySem.W.Fast.tw10110043849684766642 PySem.W.Fast.tw14364793385576792824 pw w 11 an 1 583 (sh l9 268 536 w os) ⟨(PySem.W.Fast.tw12563942051412417395 (sts 16 1) env).wrap doneF deadEnd id id, cE, ⟨121, 0, 126, 54⟩, [topFrame q0]⟩) = fun os => some (.next, sh l10 364 663 w os, cE, ⟨127, 0, 210, 28⟩) := by kernel_rfl
theorem p11 (w : World) : (fun os => PySem.W.Fast.tw10110043849684766642 PySem.W.Fast.tw14364793385576792824 pw w 11 an 1 396 (sh l10 364 663 w os) ⟨(PySem.W.Fast.tw12563942051412417395 (sts 17 7) env).wrap doneF deadEnd id id, cE, ⟨127, 0, 210, 28⟩, [topFrame q0]⟩) = fun os => some (.next, sh l11 414 750 w os, cE, ⟨238, 0, 243, 34⟩) := by kernel_rfl
theorem p12 (w : World) : (fun os => PySem.W.Fast.tw10110043849684766642 PySem.W.Fast.tw14364793385576792824 pw w 11 an 1 84 (sh l11 414 750 w os) ⟨(PySem.W.Fast.tw12563942051412417395 (sts 24 3) env).wrap doneF deadEnd id id, cE, ⟨238, 0, 243, 34⟩, [topFrame q0]⟩) = fun os => some (.next, sh l12 431 771 w os, cE, ⟨253, 0, 295, 15⟩) := by kernel_rfl
theorem fin (w : World) : (fun os => topRun treeTable pw w 11 an 2 (sh l12 431 771 w os).abs (⟨doneF .next, cE, ⟨253, 0, 295, 15⟩, [topFrame q0]⟩ : Thread)) = fun os => some (sh l12 431 771 w os).abs := by kernel_rfl
theorem bd_eq : bd = sts 0 3 ++ (sts 3 1 ++ (sts 4 1 ++ (sts 5 1 ++ (sts 6 1 ++ (sts 7 1 ++ (sts 8 1 ++ (sts 9 1 ++ (sts 10 6 ++ (sts 16 1 ++ (sts 17 7 ++ (sts 24 3 ++ []))))))))))) := by kernel_rfl
theorem run (w : World) (os : OsState) : topRun treeTable pw w 11 an (12 + (1 + (266 + (248 + (247 + (248 + (251 + (251 + (226 + (415 + (343 + (583 + (396 + (84 + 2)))))))))))))) ⟨boot_heap w.params, Array.mk [], boot_drawn, boot_toks, os⟩ (topStub pw) = some (sh l12 431 771 w os).abs := by
  refine go_top (congrFun (pre w) os) (piece_block (segRun_of (congrFun (block w) os)) ?_)
  refine Eq.mp (congrArg (fun b => topRun treeTable pw w 11 an (266 + (248 + (247 + (248 + (251 + (251 + (226 + (415 + (343 + (583 + (396 + (84 + 2)))))))))))) (sh l0 15 187 w os).abs (restOf b env cE q0 [topFrame q0]) = some (sh l12 431 771 w os).abs) bd_eq.symm) ?_
  exact piece_app (segRun_of ((segF ..).trans (congrFun (p1 w) os))) (piece_app (segRun_of ((segF ..).trans (congrFun (p2 w) os))) (piece_app (segRun_of ((segF ..).trans (congrFun (p3 w) os))) (piece_app (segRun_of ((segF ..).trans (congrFun (p4 w) os))) (piece_app (segRun_of ((segF ..).trans (congrFun (p5 w) os))) (piece_app (segRun_of ((segF ..).trans (congrFun (p6 w) os))) (piece_app (segRun_of ((segF ..).trans (congrFun (p7 w) os))) (piece_app (segRun_of ((segF ..).trans (congrFun (p8 w) os))) (piece_app (segRun_of ((segF ..).trans (congrFun (p9 w) os))) (piece_app (segRun_of ((segF ..).trans (congrFun (p10 w) os))) (piece_app (segRun_of ((segF ..).trans (congrFun (p11 w) os))) (piece_app (segRun_of ((segF ..).trans (congrFun (p12 w) os))) (piece_nil (congrFun (fin w) os)))))))))))))
noncomputable abbrev H1 (P : Params) : Heap := absHeap (bt 12 (l12 P)) 431 {}
noncomputable abbrev mods : List Str := importedModules pw.main.body
noncomputable abbrev Xt (s : Shared) : Bool := xlAt view [] s && recOk (RowW.records (OpenRow.toRowW (OpenLaw.row PySem.Challenge.rw_qz0092_01))) s
noncomputable abbrev s1 (w : World) (os : OsState) : Shared := ⟨H1 w.params, Array.mk [], {}, 771, os⟩
theorem look1 (w : World) : (fun os => (staticsOk mods (boot_heap w.params) (H1 w.params) && namesBound pw (H1 w.params) && gensDone (s1 w os) && laidKept (boot_heap w.params) (H1 w.params))) = fun _ => true := by kernel_rfl
theorem look2F (w : World) : (fun os => PySem.W.Fast.tw4187177175401517315 view [Str.ofString "Limits"] mods Xt true (s1 w os)) = fun _ => openGood view [Str.ofString "Limits"] := by kernel_rfl
theorem look2 (w : World) : (fun os => openSeen view [Str.ofString "Limits"] mods Xt true (s1 w os)) = fun _ => openGood view [Str.ofString "Limits"] := by
  rw [PySem.W.Fast.te4187177175401517315]
  exact look2F w
theorem size (w : World) : ((boot_heap w.params).isNs mainGlobals && (Array.mk [] : Array GenState).size == 0, (boot_heap w.params).objs.size, (boot_heap w.params).nsMap mainGlobals "__annotations__") = (true, 11, an) := by kernel_rfl
theorem op1 : opening pw = plainProg pw.main.scope.names := by kernel_rfl
theorem op2 (s : Shared) : fenceModules? pw s = some s := by kernel_rfl
theorem left_of {α : Type} {Yf : Shared → α} {Ya : World → α} (hy : ∀ w, (fun os => Yf (s1 w os)) = fun _ => Ya w) : LeftO pw view [Str.ofString "Limits"] Xt Yf Ya 7218 :=
  LeftO.of_pieces (H₀ := boot_heap) (H₁ := H1) (boot_open op1 (by decide +kernel) op2) size run (by decide +kernel) fun w => by
    funext os
    exact looks_pair (congrFun (look1 w) os) (looks_pair (congrFun (look2 w) os) (congrFun (hy w) os))
theorem left : Arg1 hd := left_of fun w => by kernel_rfl
theorem hdL (h : Arg2 hd) : PySem.Challenge.rw_qz0092_01.Holds := hd ⟨left, h⟩
end
end Top
end Mine
end
section
namespace Mine
/-- the law's own reckoning, as plain data -/
structure S where
  held : List Bool
  done : List Bool
  freed : List Bool
  log : List Int
noncomputable def S.unhold (s : S) (k : Int) : S := { s with held := s.held.set k.toNat false }
noncomputable def S.mark (s : S) (k : Int) : S := { s with done := s.done.set k.toNat true, log := s.log ++ [k] }
noncomputable def S.free (s : S) (k : Int) : S := { s with freed := s.freed.set k.toNat true }
noncomputable def letA (plan : List (List Int)) (bl : List Bool) : Nat → S → Int → S
  | 0, s, _ => s
  | f + 1, s, k =>
    if s.held.getD k.toNat false then
      ((if bl.getD k.toNat false && !(s.done.getD k.toNat false) then (plan.getD k.toNat []).foldl (letA plan bl f) ((s.unhold k).mark k) else s.unhold k).free k)
    else s
noncomputable def endsA (plan : List (List Int)) (bl : List Bool) (f : Nat) (s : S) (k : Int) : S := (plan.getD k.toNat []).foldl (letA plan bl f) (s.mark k)
theorem letA_zero {plan bl s k} : letA plan bl 0 s k = s := rfl
theorem letA_off {plan bl f s k} (h : s.held.getD k.toNat false = false) : letA plan bl f s k = s := by
  cases f with
  | zero => rfl
  | succ f => rw [letA, if_neg (by rw [h]; decide)]
theorem letA_on {plan bl f s k} (h : s.held.getD k.toNat false = true) : letA plan bl (f + 1) s k =
    (if bl.getD k.toNat false && !(s.done.getD k.toNat false) then endsA plan bl f (s.unhold k) k else s.unhold k).free k := by
  rw [letA, if_pos h]; rfl
structure S.Len (s : S) (n : Nat) : Prop where
  held : s.held.length = n
  done : s.done.length = n
  freed : s.freed.length = n
  log : s.log.length ≤ s.done.count true
/-- how many are held -/
noncomputable def hc (l : List Bool) : Nat := l.count true
theorem ct_set {l : List Bool} {k : Nat} (h : l.getD k false = false) (hk : k < l.length) : (l.set k true).count true = l.count true + 1 := by
  induction l generalizing k with
  | nil => simp at hk
  | cons a r ih =>
    cases k with
    | zero => simp at h; subst h; simp
    | succ k =>
      have := ih (k := k) (by simpa using h) (by simpa using hk)
      simp only [List.set_cons_succ, List.count_cons]
      omega
theorem hc_set {l : List Bool} {k : Nat} (h : l.getD k false = true) : hc (l.set k false) + 1 = hc l := by
  unfold hc
  induction l generalizing k with
  | nil => simp at h
  | cons a r ih =>
    cases k with
    | zero => simp at h; subst h; simp
    | succ k =>
      have := ih (k := k) (by simpa using h)
      simp only [List.set_cons_succ, List.count_cons]
      omega
theorem hc_set_le {l : List Bool} {k : Nat} : hc (l.set k false) ≤ hc l := by
  unfold hc
  induction l generalizing k with
  | nil => simp
  | cons a r ih =>
    cases k with
    | zero => simp [List.count_cons]
    | succ k => have := ih (k := k); simp only [List.set_cons_succ, List.count_cons]; omega
noncomputable def InPlan (plan : List (List Int)) (n : Nat) : Prop := ∀ k : Nat, ∀ q ∈ plan.getD k [], 0 ≤ q ∧ q < (n : Int)
theorem S.Len.unhold {s : S} {n k} (h : s.Len n) : (s.unhold k).Len n := ⟨by simp [S.unhold, h.held], h.done, h.freed, h.log⟩
theorem S.Len.mark {s : S} {n : Nat} {k : Int} (h : s.Len n) (hd : s.done.getD k.toNat false = false) (h0 : 0 ≤ k) (hk : k < (n : Int)) : (s.mark k).Len n :=
  ⟨h.held, by simp [S.mark, h.done], h.freed, by
    have := h.log
    have hl := h.done
    simp only [S.mark, List.length_append, List.length_singleton]
    rw [ct_set hd (by omega)]; omega⟩
theorem S.Len.free {s : S} {n k} (h : s.Len n) : (s.free k).Len n := ⟨h.held, h.done, by simp [S.free, h.freed], h.log⟩
theorem fold_len {plan bl} {n : Nat} {f : Nat} (ih : ∀ {s : S} {k : Int}, s.Len n → 0 ≤ k → k < (n : Int) → (letA plan bl f s k).Len n) : ∀ (l : List Int) (s : S), (∀ q ∈ l, 0 ≤ q ∧ q < (n : Int)) → s.Len n → (l.foldl (letA plan bl f) s).Len n
  | [], _, _, h => h
  | q :: r, _, hq, h => fold_len ih r _ (fun x hx => hq x (List.mem_cons_of_mem _ hx)) (ih h (hq q List.mem_cons_self).1 (hq q List.mem_cons_self).2)
theorem letA_len {plan bl} {n : Nat} (hp : InPlan plan n) : ∀ {f : Nat} {s : S} {k : Int}, s.Len n → 0 ≤ k → k < (n : Int) → (letA plan bl f s k).Len n := by
  intro f
  induction f with
  | zero => intro s k h _ _; exact h
  | succ f ih =>
    intro s k h h0 h1
    rw [letA]
    split
    · refine S.Len.free ?_
      split
      · rename_i hb
        refine fold_len ih _ _ (hp _) (h.unhold.mark ?_ h0 h1)
        simp only [Bool.and_eq_true, Bool.not_eq_true'] at hb
        exact hb.2
      · exact h.unhold
    · exact h
theorem endsA_len {plan bl} {n : Nat} (hp : InPlan plan n) {f : Nat} {s : S} {k : Int} (h : s.Len n) (hd : s.done.getD k.toNat false = false) (h0 : 0 ≤ k) (hk : k < (n : Int)) : (endsA plan bl f s k).Len n :=
  fold_len (letA_len hp) _ _ (hp _) (h.mark hd h0 hk)
theorem hc_letA {plan bl} : ∀ {f s k}, hc (letA plan bl f s k).held ≤ hc s.held := by
  intro f
  induction f with
  | zero => intro s k; exact Nat.le_refl _
  | succ f ih =>
    intro s k
    have fold : ∀ (l : List Int) (s : S), hc (l.foldl (letA plan bl f) s).held ≤ hc s.held := by
      intro l
      induction l with
      | nil => intro s; exact Nat.le_refl _
      | cons a r ihr => intro s; exact Nat.le_trans (ihr _) ih
    rw [letA]
    split
    · show hc (ite _ _ _ : S).held ≤ _
      split
      · exact Nat.le_trans (fold _ _) hc_set_le
      · exact hc_set_le
    · exact Nat.le_refl _
theorem hc_fold {plan bl f} : ∀ (l : List Int) (s : S), hc (l.foldl (letA plan bl f) s).held ≤ hc s.held
  | [], _ => Nat.le_refl _
  | _ :: r, _ => Nat.le_trans (hc_fold r _) hc_letA
theorem hc_le (l : List Bool) : hc l ≤ l.length := List.count_le_length
theorem set_mono {l : List Bool} {k j : Nat} (h : l.getD j false = false) : (l.set k false).getD j false = false := by
  simp only [List.getD_eq_getElem?_getD, List.getElem?_set] at h ⊢
  split
  · split <;> rfl
  · exact h
theorem letA_mono {plan bl} : ∀ {f : Nat} {s : S} {k : Int} {j : Nat}, s.held.getD j false = false → (letA plan bl f s k).held.getD j false = false := by
  intro f
  induction f with
  | zero => intro s k j h; exact h
  | succ f ih =>
    intro s k j h
    have fold : ∀ (l : List Int) (s : S), s.held.getD j false = false → (l.foldl (letA plan bl f) s).held.getD j false = false := by
      intro l
      induction l with
      | nil => intro s h; exact h
      | cons a r ihr => intro s h; exact ihr _ (ih h)
    rw [letA]
    split
    · show (ite _ _ _ : S).held.getD j false = false
      split
      · exact fold _ _ (set_mono h)
      · exact set_mono h
    · exact h
theorem fold_mono {plan bl} {f : Nat} {j : Nat} : ∀ (l : List Int) (s : S), s.held.getD j false = false → (l.foldl (letA plan bl f) s).held.getD j false = false
  | [], _, h => h
  | _ :: r, _, h => fold_mono r _ (letA_mono h)
theorem getD_set_self {l : List Bool} {k : Nat} {b : Bool} (h : k < l.length) : (l.set k b).getD k false = b := by
  simp [List.getD_eq_getElem?_getD, List.getElem?_set, h]
theorem getD_set_ne {l : List Bool} {k j : Nat} {b : Bool} (h : j ≠ k) : (l.set k b).getD j false = l.getD j false := by
  simp only [List.getD_eq_getElem?_getD, List.getElem?_set, if_neg (Ne.symm h)]
end Mine
end
section
namespace Mine
theorem eps_all {α : Type} {ne : Nonempty α} {P : α → Prop} (h : P (@Classical.epsilon α ne fun x => ¬ P x)) (x : α) : P x :=
  Classical.byContradiction fun hx => (Classical.epsilon_spec (p := fun x => ¬ P x) ⟨x, hx⟩) h
end Mine
end
theorem Mine.rs_Nine : True := by
  w_top off
  trivial
section
open PySem PySem.W PyProof.Rows
namespace Mine
theorem kc_nine {cm : Str → Option Value} {n₁ n₂ n₃ n₄ n₅ n₆ n₇ n₈ n₉ : Str} {c₁ c₂ c₃ c₄ c₅ c₆ c₇ c₈ c₉ : Addr} {cells : List (Addr × Obj)} (x : CellsAre cm [(n₁, c₁), (n₂, c₂), (n₃, c₃), (n₄, c₄), (n₅, c₅), (n₆, c₆), (n₇, c₇), (n₈, c₈), (n₉, c₉)] cells)
    (e1 : cm n₁ = none) (e2 : cm n₂ = none) (e3 : cm n₃ = none) (e4 : cm n₄ = none) (e5 : cm n₅ = none) (e6 : cm n₆ = none) (e7 : cm n₇ = none) (e8 : cm n₈ = none) (e9 : cm n₉ = none) :
    ∃ o₁ o₂ o₃ o₄ o₅ o₆ o₇ o₈ o₉, cells = [(c₁, o₁), (c₂, o₂), (c₃, o₃), (c₄, o₄), (c₅, o₅), (c₆, o₆), (c₇, o₇), (c₈, o₈), (c₉, o₉)] ∧ o₁.data = .cell none ∧ o₂.data = .cell none ∧ o₃.data = .cell none ∧ o₄.data = .cell none ∧ o₅.data = .cell none ∧ o₆.data = .cell none ∧ o₇.data = .cell none ∧ o₈.data = .cell none ∧ o₉.data = .cell none := by
  cases x with | cons h r => obtain ⟨o₂, o₃, o₄, o₅, o₆, o₇, o₈, o₉, rfl, h₂, h₃, h₄, h₅, h₆, h₇, h₈, h₉⟩ := kc_eight r; exact ⟨_, o₂, o₃, o₄, o₅, o₆, o₇, o₈, o₉, rfl, e1 ▸ h, e2 ▸ h₂, e3 ▸ h₃, e4 ▸ h₄, e5 ▸ h₅, e6 ▸ h₆, e7 ▸ h₇, e8 ▸ h₈, e9 ▸ h₉⟩
end Mine
end
theorem Mine.rs_Base : True := by
  w_top off
  trivial
open PySem PySem.W PyProof.Rows PySem.Calls
namespace Mine
theorem ne_of_allLt {d : Addr} : ∀ {l : List (Addr × Obj)}, AllLt d l → ∀ p ∈ l, p.1 ≠ d
  | [], _, _, h => nomatch h
  | _ :: _, x, p, h => by
    rcases List.mem_cons.mp h with rfl | h
    · exact Nat.ne_of_lt x.1
    · exact ne_of_allLt x.2 p h
noncomputable def Ors {α : Type} (p : α) : List α → Prop
  | [] => False
  | [a] => p = a
  | a :: b :: l => p = a ∨ Ors p (b :: l)
theorem mem_ors {α : Type} {p : α} : ∀ {l : List α}, p ∈ l → Ors p l
  | [], h => nomatch h
  | [_], h => List.mem_singleton.mp h
  | _ :: _ :: _, h => (List.mem_cons.mp h).imp id mem_ors
end Mine
local macro_rules | `(tactic| k_all) => `(tactic| first | assumption | exact Mine.ne_of_allLt (by assumption))
local macro_rules | `(tactic| k_lt $h:ident) => `(tactic| (replace $h := allLt_of $h; simp only [AllLt, and_true] at $h:ident; (have hT9 := $h); (repeat (replace hT9 := And.right hT9))))
theorem Mine.rs_Pour : True := by
  w_top off
  trivial
section
open PySem PySem.W PyProof.Rows PySem.Calls
namespace Mine
noncomputable def pourV (ns : List Int) (c many : Int) : Int := (if c < ns.length then ns.getD c.toNat 0 else 2 * (c + 1) + (c + 1) / 3) % many

theorem int_ret {Q : Value → Shared → Prop} {x y : Int} {t : Tok} {s : Shared} (h : Q (.int y t) s) (e : x = y) : Q (.int x t) s := e ▸ h

theorem pour_spec {w : World} {p : Program} {loose : List PySem.Str} {mean : ExcName → Option Value} {mg mb : PySem.Str → Option Value}
  {dp un : Nat} {gd : Option (List Code)} {cn : PySem.Str} {cs : Scope} {a : Addr} {ccd : Value} {cl : List (PySem.Str × Addr)} {outer : List Env} {A₀ : Around} {base h₀ : Heap} {L : Addr} {m : PySem.Str → Option Value} {rest : List (Addr × Obj)} {s : Shared}
  {Q E : Value → Shared → Prop} {jl D : Addr} {ws : List Value} {ns : List Int} {c many : Int} {tk tkc : Tok} {n1 n2 : Nat}
  (B : Below A₀ base outer h₀) (F : Fr h₀ L s.heap m) (X : (hd.heap_1 w.params).In h₀) (N : News h₀ L s.heap ((jl, listOf #[.ref D, .int c tkc] n1) :: (D, listOf ws.toArray n2) :: rest))
  (T : Top p loose mean mg mb h₀) (hk : cs.kind = .function)
  (hD : @LT.lt Nat _ D jl) (hR : ∀ p ∈ rest, p.1 ≠ jl) (hI : IntsAre ws ns) (hlen : ns.length ≤ 40) (hc : 0 ≤ c) (hc2 : c < 1000) (hm : 0 < many) (hm2 : many < 1000)
  (hd : dp + 1 < recursionLimit) (hu : un + 8 < cLine)
  (ret : ∀ h' tk' t t2, Fr h₀ L h' m → News h₀ L h' ((jl, listOf #[.ref D, .int (c + 1) t] n1) :: (D, listOf ws.toArray n2) :: rest) → Q (.int (pourV ns c many) t2) { s with heap := h', toks := tk' }) :
  wpAny (model PySem.Challenge.rw_qz0092_01.row.prog w) (ktrTop dp un gd cn cs L a ccd cl outer) (call (.ref 406) [.ref jl, .int many tk]) Q E s := by
  revert X; k_fill; intro X
  refine wpAny_call ?_
  k_dflt ktr_enter
  k_steps
  all_goals refine int_ret (ret _ _ _ _ (by k_asm) (by k_asm)) ?_
  all_goals (simp only [decide_eq_true_eq, decide_eq_false_iff_not] at *)
  · rw [pourV, if_pos (by omega), Int.fmod_eq_emod_of_nonneg _ (by omega)]; congr 2; omega
  · rw [pourV, if_neg (by omega), Int.fmod_eq_emod_of_nonneg _ (by omega), Int.fdiv_eq_ediv_of_nonneg _ (by omega)]
end Mine
end
theorem Mine.rs_Reb : True := by
  w_top off
  trivial
section
open PySem PySem.W PyProof.Rows PySem.Calls
namespace Mine
noncomputable def trunc (h : Heap) (n : Nat) : Heap := { objs := h.objs.extract 0 n, life := h.life }
theorem trunc_get {h : Heap} {n b : Nat} {o : Obj} (e : h.get? b = some o) (hb : b < n) : (trunc h n).get? b = some o := by
  have hl : b < h.objs.size := Heap.lt_size e
  unfold Heap.get? at e ⊢
  have : (trunc h n).objs[b]? = h.objs[b]? := by
    unfold trunc
    rw [Array.getElem?_extract]
    simp; intro h1; omega
  rw [this]; exact e
theorem trunc_of {h : Heap} {n b : Nat} {o : Obj} (e : (trunc h n).get? b = some o) : h.get? b = some o := by
  have hl : b < (trunc h n).objs.size := Heap.lt_size e
  have hl' : b < min n h.objs.size := by simpa [trunc] using hl
  unfold Heap.get? at e ⊢
  have : (trunc h n).objs[b]? = h.objs[b]? := by
    unfold trunc
    rw [Array.getElem?_extract]
    simp; intro h1; omega
  rw [← this]; exact e
theorem trunc_size {h : Heap} {n : Nat} : (trunc h n).objs.size ≤ n := by simp [trunc]; omega

structure Reb (g g₁ : Heap) (L : Addr) (R : List (Addr × Obj)) : Prop where
  sub : g.StaysIn g₁
  rest : ∀ p ∈ R, g₁.get? p.1 = some p.2 ∧ p.1 < L ∧ g.get? p.1 = none
  size : g.objs.size ≤ g₁.objs.size
noncomputable def AllOff (R Ex : List (Addr × Obj)) : Prop := ∀ p ∈ R, ∀ q ∈ Ex, p.1 ≠ q.1
theorem rebase {g h : Heap} {L : Addr} {m : PySem.Str → Option Value} {Ex R : List (Addr × Obj)} (F : Fr g L h m) (N : News g L h (Ex ++ R)) (hR : ∀ p ∈ R, p.1 < L) (hoff : AllOff R Ex) :
    ∃ g₁, Reb g g₁ L R ∧ Fr g₁ L h m ∧ News g₁ L h Ex := by
  refine ⟨hideAll (trunc h L) (Ex.map (·.1)), ⟨fun b o e => ?_, fun p hp => ⟨?_, hR p hp, (N p (List.mem_append_right _ hp)).2.2⟩, ?_⟩, ⟨F.ns, fun b o e => trunc_of (of_hideAll _ e), Nat.le_trans (Nat.le_of_eq (hideAll_size _ _)) trunc_size⟩, fun p hp => ?_⟩
  · refine hideAll_get _ (trunc_get (F.keep b o e) (Nat.lt_of_lt_of_le (Heap.lt_size e) F.above)) fun hm => ?_
    obtain ⟨q, hq, rfl⟩ := List.mem_map.mp hm
    rw [(N q (List.mem_append_left _ hq)).2.2] at e; cases e
  · refine hideAll_get _ (trunc_get (N p (List.mem_append_right _ hp)).1 (hR p hp)) fun hm => ?_
    obtain ⟨q, hq, e⟩ := List.mem_map.mp hm
    exact hoff p hp q hq e.symm
  · rw [hideAll_size]
    have h1 : @LE.le Nat _ g.objs.size L := F.above
    have h2 : @LT.lt Nat _ L h.objs.size := F.ns.lt
    show g.objs.size ≤ (h.objs.extract 0 L).size
    rw [Array.size_extract]; omega
  · exact ⟨(N p (List.mem_append_left _ hp)).1, (N p (List.mem_append_left _ hp)).2.1, hideAll_none _ (List.mem_map_of_mem hp)⟩
theorem below_up {A : Around} {base g g₁ : Heap} {outer : List Env} {L : Addr} {R : List (Addr × Obj)} (B : Below A base outer g) (S : Reb g g₁ L R) : Below A base outer g₁ :=
  ⟨B.stack, fun b o e => S.sub b o (B.stays b o e), B.frames.of_keeps fun b o e _ => ⟨o, S.sub b o e, rfl⟩⟩
theorem news_app {g h : Heap} {L : Addr} {A B : List (Addr × Obj)} (N : News g L h A) (M : News g L h B) : News g L h (A ++ B) := fun p hp =>
  (List.mem_append.mp hp).elim (N p) (M p)
theorem Reb.fr {g g₁ h : Heap} {L L₂ : Addr} {m : PySem.Str → Option Value} {R : List (Addr × Obj)} (S : Reb g g₁ L R) (F : Fr g₁ L₂ h m) : Fr g L₂ h m :=
  ⟨F.ns, fun b o e => F.keep b o (S.sub b o e), Nat.le_trans S.size F.above⟩
theorem Reb.ex {g g₁ h : Heap} {L L₂ : Addr} {Ex R : List (Addr × Obj)} (S : Reb g g₁ L R) (N : News g₁ L₂ h Ex) : News g L₂ h Ex := fun p hp =>
  ⟨(N p hp).1, (N p hp).2.1, by
    cases q : g.get? p.1 with
    | none => rfl
    | some o => have := (N p hp).2.2; rw [S.sub _ _ q] at this; cases this⟩
theorem Reb.news {g g₁ h : Heap} {L : Addr} {m : PySem.Str → Option Value} {Ex R : List (Addr × Obj)} (S : Reb g g₁ L R) (F : Fr g₁ L h m) (N : News g₁ L h Ex) : News g L h (Ex ++ R) :=
  news_app (S.ex N) fun p hp => ⟨F.keep _ _ (S.rest p hp).1, Nat.ne_of_lt (S.rest p hp).2.1, (S.rest p hp).2.2⟩

theorem cellsFrom_ge : ∀ (names : List (PySem.Str × NameKind)) (n n₀ : Nat) (acc : List (PySem.Str × Addr)), n₀ ≤ n → (∀ p ∈ acc, n₀ ≤ p.2) → ∀ p ∈ cellsFrom n names acc, n₀ ≤ p.2
  | [], _, _, _, _, h => h
  | (y, k) :: r, n, n₀, acc, hn, h => by
    unfold cellsFrom
    split
    · refine cellsFrom_ge r (n + 1) n₀ _ (Nat.le_succ_of_le hn) fun p hp => ?_
      rcases List.mem_cons.mp hp with rfl | hp
      · exact hn
      · exact h p hp
    · exact cellsFrom_ge r n n₀ acc hn h
theorem cells_in {cm : PySem.Str → Option Value} {cs : List (PySem.Str × Addr)} {cells : List (Addr × Obj)} (x : CellsAre cm cs cells) : ∀ p ∈ cells, ∃ q ∈ cs, q.2 = p.1 := by
  induction x with
  | nil => exact fun _ h => nomatch h
  | cons _ _ ih =>
    intro p hp
    rcases List.mem_cons.mp hp with rfl | hp
    · exact ⟨_, List.mem_cons_self, rfl⟩
    · obtain ⟨q, hq, e⟩ := ih p hp
      exact ⟨q, List.mem_cons_of_mem _ hq, e⟩

noncomputable def InBase (R : List (Addr × Obj)) (g : Heap) : Prop := ∀ p ∈ R, g.get? p.1 = some p.2
theorem InBase.ne {R news : List (Addr × Obj)} {g h : Heap} {L : Addr} (H : InBase R g) (N : News g L h news) {q : Addr × Obj} (hq : q ∈ news) : ∀ p ∈ R, p.1 ≠ q.1 := fun p hp e => by
  have h1 := H p hp
  rw [e, (N q hq).2.2] at h1; cases h1
theorem split_news {h₀ h : Heap} {L : Addr} {news Ex : List (Addr × Obj)} (N : News h₀ L h news) (hs : ∀ p ∈ Ex, p ∈ news) :
    ∃ R, News h₀ L h (Ex ++ R) ∧ AllOff R Ex ∧ (∀ p ∈ news, p ∈ Ex ++ R) ∧ ∀ p ∈ R, p ∈ news := by
  refine ⟨news.filter fun p => decide (p.1 ∉ Ex.map (·.1)), fun p hp => ?_, fun p hp q hq e => ?_, fun p hp => ?_, fun p hp => (List.mem_filter.mp hp).1⟩
  · rcases List.mem_append.mp hp with hp | hp
    · exact N p (hs p hp)
    · exact N p (List.mem_filter.mp hp).1
  · have h1 := of_decide_eq_true (List.mem_filter.mp hp).2
    exact h1 (e ▸ List.mem_map_of_mem hq)
  · by_cases hx : p.1 ∈ Ex.map (·.1)
    · obtain ⟨q, hq, e⟩ := List.mem_map.mp hx
      have h1 := (N p hp).1
      have h2 := (N q (hs q hq)).1
      rw [e, h1] at h2
      have : p = q := Prod.ext e.symm (Option.some.inj h2)
      rw [this]; exact List.mem_append_left _ hq
    · exact List.mem_append_right _ (List.mem_filter.mpr ⟨hp, decide_eq_true hx⟩)
theorem lt_frames {h₀ g h : Heap} {L L' : Addr} {m m' : PySem.Str → Option Value} (FG : Fr h₀ L g m) (F : Fr g L' h m') : @LT.lt Nat _ L L' := Nat.lt_of_lt_of_le FG.ns.lt F.above
theorem news_sub {h₀ h : Heap} {L : Addr} {A B : List (Addr × Obj)} (N : News h₀ L h A) (hs : ∀ p ∈ B, p ∈ A) : News h₀ L h B := fun p hp => N p (hs p hp)

section
variable {prog : Program} {w : World} {A A₀ : Around} {s : Shared} {K : Frag} {L : Addr} {h₀ base : Heap} {m mg mb : PySem.Str → Option Value} {Ex R : List (Addr × Obj)} {p : Program} {loose : List PySem.Str} {mean : ExcName → Option Value}
theorem leave_leaf {L' : Addr} {g g₁ : Heap} {R₀ : Result → Shared → Prop} {v : Value} {s' : Shared} (S : Reb g g₁ L' R) (N0 : News h₀ L s.heap (Ex ++ R))
    (x : LeaveK h₀ L m g₁ (fun r s'' => News h₀ L s''.heap R → R₀ r s'') v s') : LeaveK h₀ L m g R₀ v s' := by
  obtain ⟨L₂, m', news', F', N', k⟩ := x
  refine ⟨L₂, m', news', S.fr F', S.ex N', fun F₂ N₂ => k F₂ N₂ fun q hq => ?_⟩
  exact ⟨F'.keep _ _ (S.rest q hq).1, (N0 q (List.mem_append_right _ hq)).2⟩

/-- entering a top def: the opaque part R goes into the walk's base; what leaves is said of g (R may have turned) -/
theorem code_defG {env : Env} {outer : List Env} {R₀ : Result → Shared → Prop} {name qual : PySem.Str} {params : Arguments} {body : List Stmt} {scope : Scope} {dV kV doc pm cdv ct oc : Value} {an od : Option Addr} {osl : Array (Option Value)} {f : Addr} {args : Args} {binds : List (PySem.Str × Value)}
    (B : Below A₀ base outer h₀) (F : Fr h₀ L s.heap m) (X₀ : K.In h₀) (N : News h₀ L s.heap (Ex ++ R)) (T : Top p loose mean mg mb h₀) (hA : A.frames = some (env :: outer)) (hf : env.frame = some L) (hke : env.scope.kind = .function)
    (ho : K.lookup f = some ⟨oc, od, .func (fnOf name qual params body scope dV kV doc pm an cdv ct), osl⟩) (hcd : codeIn K cdv qual = true) (hroom : A.depth < recursionLimit)
    (hbind : BindsTo s (fnOf name qual params body scope dV kV doc pm an cdv ct) args binds) (hloc : ∀ y ∈ binds, scope.names.lookup y.1 = some .local) (hoff : AllOff R Ex)
    (h : ∀ g g₁ L' h₁, Reb g g₁ L' R → Fr h₀ L g₁ m → Fr g₁ L' h₁ (fun y => binds.reverse.lookup y) → News g₁ L' h₁ Ex → Below A base (env :: outer) g₁ → K.In g₁ → Top p loose mean mg mb g₁ → (∀ p ∈ Ex, p.1 < L') →
      wpAny (model prog w) (A.deeper (envOf qual scope L' f cdv)) (execs body (envOf qual scope L' f cdv))
        (fun fl s' => LeaveK h₀ L m g R₀ (match fl with | .ret v => v | _ => .none) s')
        (fun e s' => wpAny (model prog w) (A.deeper (envOf qual scope L' f cdv)) (leaving (envOf qual scope L' f cdv) e) (fun _ s'' => R₀ (.error e) s'') (fun e' s'' => R₀ (.error e') s'') s')
        { s with heap := h₁, toks := s.toks + binds.length })
    (hco : scope.isCoroutine = false) (hgen : scope.isGenerator = false) (hk : scope.kind = .function)
    (hcell : ∀ x ∈ scope.names, x.2 ≠ .cell) : codeAny (model prog w) A (.call (.ref f) args) R₀ s :=
  callX_plain (cl := []) B F N T.nolimit hA hf hke ((X₀.keeps F.keep) _ _ ho) rfl (codeRec_of (X₀.keeps F.keep) hcd) hroom hbind hloc (fun g L' h₁ FG F' N' B' st l => by
    obtain ⟨g₁, S, F₁, N₁⟩ := rebase F' N' (fun p hp => l p (List.mem_append_right _ hp)) hoff
    exact h g g₁ L' h₁ S (FG.keeps S.sub) F₁ N₁ (below_up B' S) ((X₀.keeps st).keeps S.sub) ((T.keeps st).keeps S.sub) fun p hp => l p (List.mem_append_left _ hp)) hcell hco hgen hk
/-- the same for a leaf: R stays as it is -/
theorem code_defR {env : Env} {outer : List Env} {R₀ : Result → Shared → Prop} {name qual : PySem.Str} {params : Arguments} {body : List Stmt} {scope : Scope} {dV kV doc pm cdv ct oc : Value} {an od : Option Addr} {osl : Array (Option Value)} {f : Addr} {args : Args} {binds : List (PySem.Str × Value)}
    (B : Below A₀ base outer h₀) (F : Fr h₀ L s.heap m) (X₀ : K.In h₀) (N : News h₀ L s.heap (Ex ++ R)) (T : Top p loose mean mg mb h₀) (hA : A.frames = some (env :: outer)) (hf : env.frame = some L) (hke : env.scope.kind = .function)
    (ho : K.lookup f = some ⟨oc, od, .func (fnOf name qual params body scope dV kV doc pm an cdv ct), osl⟩) (hcd : codeIn K cdv qual = true) (hroom : A.depth < recursionLimit)
    (hbind : BindsTo s (fnOf name qual params body scope dV kV doc pm an cdv ct) args binds) (hloc : ∀ y ∈ binds, scope.names.lookup y.1 = some .local) (hoff : AllOff R Ex)
    (h : ∀ g₁ L' h₁, InBase R g₁ → Fr h₀ L g₁ m → Fr g₁ L' h₁ (fun y => binds.reverse.lookup y) → News g₁ L' h₁ Ex → Below A base (env :: outer) g₁ → K.In g₁ → Top p loose mean mg mb g₁ → (∀ p ∈ Ex, p.1 < L') →
      wpAny (model prog w) (A.deeper (envOf qual scope L' f cdv)) (execs body (envOf qual scope L' f cdv))
        (fun fl s' => LeaveK h₀ L m g₁ (fun r s'' => News h₀ L s''.heap R → R₀ r s'') (match fl with | .ret v => v | _ => .none) s')
        (fun e s' => wpAny (model prog w) (A.deeper (envOf qual scope L' f cdv)) (leaving (envOf qual scope L' f cdv) e) (fun _ s'' => R₀ (.error e) s'') (fun e' s'' => R₀ (.error e') s'') s')
        { s with heap := h₁, toks := s.toks + binds.length })
    (hco : scope.isCoroutine = false) (hgen : scope.isGenerator = false) (hk : scope.kind = .function)
    (hcell : ∀ x ∈ scope.names, x.2 ≠ .cell) : codeAny (model prog w) A (.call (.ref f) args) R₀ s :=
  code_defG B F X₀ N T hA hf hke ho hcd hroom hbind hloc hoff (fun g g₁ L' h₁ S FG F₁ N₁ B₁ X₁ T₁ l => wpAny_mono (h g₁ L' h₁ (fun p hp => (S.rest p hp).1) FG F₁ N₁ B₁ X₁ T₁ l) (fun fl s' x => leave_leaf S N x) fun _ _ x => x) hco hgen hk hcell

theorem code_defGC {env : Env} {outer : List Env} {R₀ : Result → Shared → Prop} {name qual : PySem.Str} {params : Arguments} {body : List Stmt} {scope : Scope} {dV kV doc pm cdv ct oc : Value} {an od : Option Addr} {osl : Array (Option Value)} {f : Addr} {args : Args} {binds : List (PySem.Str × Value)}
    (B : Below A₀ base outer h₀) (F : Fr h₀ L s.heap m) (X₀ : K.In h₀) (N : News h₀ L s.heap (Ex ++ R)) (T : Top p loose mean mg mb h₀) (hA : A.frames = some (env :: outer)) (hf : env.frame = some L) (hke : env.scope.kind = .function)
    (ho : K.lookup f = some ⟨oc, od, .func (fnOf name qual params body scope dV kV doc pm an cdv ct), osl⟩) (hcd : codeIn K cdv qual = true) (hroom : A.depth < recursionLimit)
    (hbind : BindsTo s (fnOf name qual params body scope dV kV doc pm an cdv ct) args binds) (hkind : (binds.all fun y => scope.names.lookup y.1 == some .local || scope.names.lookup y.1 == some .cell) = true)
    (hnd : ((cellsFrom 0 scope.names []).map (·.1)).Nodup) (hoff : AllOff R Ex)
    (h : ∀ g g₁ L' h₁ tk cells, Reb g g₁ L' R → Fr h₀ L g₁ m → Fr g₁ L' h₁ (bindL (envOfC qual scope L' f cdv).kindOf binds fun _ => none) → News g₁ L' h₁ (cells ++ Ex) →
      CellsAre (bindC (envOfC qual scope L' f cdv).kindOf binds fun _ => none) (cellsFrom (L' + 1) scope.names []) cells → Below A base (env :: outer) g₁ → K.In g₁ → Top p loose mean mg mb g₁ → (∀ p ∈ Ex, p.1 < L') →
      wpAny (model prog w) (A.deeper (envOfC qual scope L' f cdv)) (execs body (envOfC qual scope L' f cdv))
        (fun fl s' => LeaveK h₀ L m g R₀ (match fl with | .ret v => v | _ => .none) s')
        (fun e s' => wpAny (model prog w) (A.deeper (envOfC qual scope L' f cdv)) (leaving (envOfC qual scope L' f cdv) e) (fun _ s'' => R₀ (.error e) s'') (fun e' s'' => R₀ (.error e') s'') s')
        { s with heap := h₁, toks := tk })
    (hco : scope.isCoroutine = false) (hgen : scope.isGenerator = false) (hk : scope.kind = .function) : codeAny (model prog w) A (.call (.ref f) args) R₀ s :=
  callX_cells B F N T.nolimit hA hf hke ((X₀.keeps F.keep) _ _ ho) rfl (codeRec_of (X₀.keeps F.keep) hcd) hroom hbind (kindsX hkind) hnd (fun g L' h₁ tk cells FG F' N' Y B' st l => by
    have hc : ∀ p ∈ cells, L' < p.1 := fun p hp => by
      obtain ⟨q, hq, e⟩ := cells_in Y p hp
      rw [← e]
      exact Nat.lt_of_succ_le (cellsFrom_ge scope.names (L' + 1) (L' + 1) [] (Nat.le_refl _) (fun _ h => nomatch h) q hq)
    obtain ⟨g₁, S, F₁, N₁⟩ := rebase (Ex := cells ++ Ex) F' (by rw [List.append_assoc]; exact N') (fun p hp => l p (List.mem_append_right _ hp)) (fun p hp q hq => by
      rcases List.mem_append.mp hq with hq | hq
      · exact Nat.ne_of_lt (Nat.lt_trans (l p (List.mem_append_right _ hp)) (hc q hq))
      · exact hoff p hp q hq)
    exact h g g₁ L' h₁ tk cells S (FG.keeps S.sub) F₁ N₁ Y (below_up B' S) ((X₀.keeps st).keeps S.sub) ((T.keeps st).keeps S.sub) fun p hp => l p (List.mem_append_left _ hp)) hco hgen hk
theorem code_defRC {env : Env} {outer : List Env} {R₀ : Result → Shared → Prop} {name qual : PySem.Str} {params : Arguments} {body : List Stmt} {scope : Scope} {dV kV doc pm cdv ct oc : Value} {an od : Option Addr} {osl : Array (Option Value)} {f : Addr} {args : Args} {binds : List (PySem.Str × Value)}
    (B : Below A₀ base outer h₀) (F : Fr h₀ L s.heap m) (X₀ : K.In h₀) (N : News h₀ L s.heap (Ex ++ R)) (T : Top p loose mean mg mb h₀) (hA : A.frames = some (env :: outer)) (hf : env.frame = some L) (hke : env.scope.kind = .function)
    (ho : K.lookup f = some ⟨oc, od, .func (fnOf name qual params body scope dV kV doc pm an cdv ct), osl⟩) (hcd : codeIn K cdv qual = true) (hroom : A.depth < recursionLimit)
    (hbind : BindsTo s (fnOf name qual params body scope dV kV doc pm an cdv ct) args binds) (hkind : (binds.all fun y => scope.names.lookup y.1 == some .local || scope.names.lookup y.1 == some .cell) = true)
    (hnd : ((cellsFrom 0 scope.names []).map (·.1)).Nodup) (hoff : AllOff R Ex)
    (h : ∀ g₁ L' h₁ tk cells, InBase R g₁ → Fr h₀ L g₁ m → Fr g₁ L' h₁ (bindL (envOfC qual scope L' f cdv).kindOf binds fun _ => none) → News g₁ L' h₁ (cells ++ Ex) →
      CellsAre (bindC (envOfC qual scope L' f cdv).kindOf binds fun _ => none) (cellsFrom (L' + 1) scope.names []) cells → Below A base (env :: outer) g₁ → K.In g₁ → Top p loose mean mg mb g₁ → (∀ p ∈ Ex, p.1 < L') →
      wpAny (model prog w) (A.deeper (envOfC qual scope L' f cdv)) (execs body (envOfC qual scope L' f cdv))
        (fun fl s' => LeaveK h₀ L m g₁ (fun r s'' => News h₀ L s''.heap R → R₀ r s'') (match fl with | .ret v => v | _ => .none) s')
        (fun e s' => wpAny (model prog w) (A.deeper (envOfC qual scope L' f cdv)) (leaving (envOfC qual scope L' f cdv) e) (fun _ s'' => R₀ (.error e) s'') (fun e' s'' => R₀ (.error e') s'') s')
        { s with heap := h₁, toks := tk })
    (hco : scope.isCoroutine = false) (hgen : scope.isGenerator = false) (hk : scope.kind = .function) : codeAny (model prog w) A (.call (.ref f) args) R₀ s :=
  code_defGC B F X₀ N T hA hf hke ho hcd hroom hbind hkind hnd hoff (fun g g₁ L' h₁ tk cells S FG F₁ N₁ Y B₁ X₁ T₁ l => wpAny_mono (h g₁ L' h₁ tk cells (fun p hp => (S.rest p hp).1) FG F₁ N₁ Y B₁ X₁ T₁ l) (fun fl s' x => leave_leaf S N x) fun _ _ x => x) hco hgen hk
end
end Mine
end
theorem Mine.rs_Ent : True := by
  w_top off
  trivial
open PySem PySem.W PyProof.Rows PySem.Calls
local macro_rules | `(tactic| k_room) => `(tactic| ktr_room)
local macro_rules | `(tactic| walk_at "eval ListComp") => `(tactic| (k_here; k_dflt (first
  | (lct_look; refine LCt.ListComp_T (F₀ := by k_asm) (by with_unfolding_all rfl) (by decide) (by rfl) (by decide) (by rfl) ?_)
  | refine LCg.ListComp_U (F₀ := by k_asm) (by with_unfolding_all rfl) (by decide) (by rfl) (by decide) (by rfl) ?_)))
local macro_rules | `(tactic| walk_at "CompSrc") => `(tactic| (k_here; k_dflt (refine' LCg.CompSrc.ledger ?hh ?F ?N ?m ?z ?_; (case hh => rfl); (case F => k_asm); (case N => k_asm); (case m => k_mem); (case z => exact Nat.le_of_ble_eq_true rfl); intro g'; lcg_lit)))
local macro_rules | `(tactic| walk_at "CompSrcT") => `(tactic| (k_here; k_dflt (refine' LCt.CompSrcT.ledger ?hh ?F ?N ?m ?z ?_; (case hh => rfl); (case F => k_asm); (case N => k_asm); (case m => k_mem); (case z => exact Nat.le_of_ble_eq_true rfl); intro g'; lct_lit)))
local macro_rules | `(tactic| lcg_off) => `(tactic| first | assumption | (simp only [LCg.Off3, and_true]; assumption))
local macro_rules | `(tactic| k_lt $h:ident) => `(tactic| (replace $h := allLt_of $h; simp only [AllLt, and_true] at $h:ident; (repeat ((have hq9 := And.left $h); (replace $h := And.right $h)))))
local macro_rules | `(tactic| k_ne) => `(tactic| (refine neN ?_; (try dsimp only); first | with_reducible assumption | exact Ne.symm (by with_reducible assumption) | exact Nat.ne_of_lt (by with_reducible assumption) | exact Nat.ne_of_gt (by with_reducible assumption) | omega))
local macro_rules | `(tactic| walk_at "FinE") => `(tactic| ((unfold LCg.FinE); intro D' h' tk' F' N' o1'; (try simp only [LCg.Off1, and_true] at o1'); (repeat ((have hq9 := And.left o1'); (replace o1' := And.right o1'))); (try simp only [List.nil_append, List.cons_append] at N'); (try dsimp only)))
local macro_rules | `(tactic| k_in) => `(tactic| first | with_reducible assumption | (refine' Frag.In.keeps ?X ?k; (case k => exact Fr.keep (by with_reducible assumption)); (case X => with_reducible assumption)) | ((dsimp only); refine' Frag.In.keeps ?X ?k; (case k => exact Fr.keep (by with_reducible assumption)); (case X => with_reducible assumption)))
section
open PySem PySem.W PyProof.Rows PySem.Calls
namespace Mine
/-- the tokens of an eight-entry dict -/
structure Tk8 where
  a : Tok
  b : Tok
  c : Tok
  d : Tok
  e : Tok
  f : Tok
  g : Tok
  h : Tok
  n : Tok
  m : Tok
noncomputable abbrev ent (P : Params) (x : PySem.Str) (t : Tok) (v : Value) : DictEntry := ⟨PyData.keyHash P x, .str x t, v⟩
noncomputable abbrev thingD (P : Params) (t1 t2 t3 t4 t5 t6 t7 t8 tn tc : Tok) (num cnt : Int) (bl : Value) (wk : Addr) (dest freed : Bool) (it : Addr) : Obj :=
  dictOf [ent P (PySem.Str.ofString "number") t1 (.int num tn), ent P (PySem.Str.ofString "count") t2 (.int cnt tc), ent P (PySem.Str.ofString "blessed") t3 bl, ent P (PySem.Str.ofString "weak") t4 (.ref wk),
    ent P (PySem.Str.ofString "is_destroyed") t5 (.bool dest), ent P (PySem.Str.ofString "is_freed") t6 (.bool freed), ent P (PySem.Str.ofString "items") t7 (.ref it), ent P (PySem.Str.ofString "tied") t8 .none] 8
end Mine
end
theorem Mine.rs_SortD : True := by
  w_top off
  trivial
section
open PySem PySem.W PyProof.Rows PySem.Calls PySem.Spec
namespace Mine
section
variable {prog : Program} {w : World} {A : Around} {E : Value → Shared → Prop} {s : Shared} {h₀ : Heap} {L : Addr} {m : PySem.Str → Option Value} {news : List (Addr × Obj)} {Q : Value → Shared → Prop}
/-- sorted(d) of a dict whose keys are ints -/
theorem sorted_dict {d : Addr} {od : Obj} {kvs : List (Int × Value)} (lo : (d == sysModules) = false) (hh : A.handled = none) (F : Fr h₀ L s.heap m) (N : News h₀ L s.heap news) (hm : (d, od) ∈ news)
    (hd : Obj.IsDictOf (intKind prog w) od kvs) (hn : kvs.length < 64)
    (h : ∀ (D : Addr) (h' : Heap) (tk c : Nat) (vs : List Value) (ns : List Int), Fr h₀ L h' m → News h₀ L h' ((D, listOf vs.toArray c) :: news) → (∀ q ∈ news, q.1 < D) → IntsAre vs ns → ns.Perm (kvs.map (·.1)) → ns.Pairwise (· ≤ ·) →
      Q (.ref D) { s with heap := h', toks := tk }) :
    wpAny (model prog w) A (call (.builtin "sorted") [.ref d]) Q E s := by
  obtain ⟨ep, hat⟩ : ∃ ep, s.heap.DictAt (intKind prog w) d kvs ep := (show s.heap.DictOf (intKind prog w) d kvs from Heap.dictOf_iff.mpr ⟨od, (N _ hm).1, hd⟩).dictAt
  refine kdu_sorted (kdl_dict (knd := intKind prog w) (kvs := kvs) (ep := ep) lo) hh F N hat (kdl_size (by omega)) fun D h' tk vs F' N' hl hlen hv => ?_
  have hI : IntsAre vs (kvs.map (·.1)) := by
    have : ∀ (l : List (Int × Value)) (us : List Value), us.length = l.length → (∀ (j : Nat) (v : Value), us[j]? = some v → ∃ k x, l[j]? = some (k, x) ∧ (intKind prog w).is k v = true) → IntsAre us (l.map (·.1)) := by
      intro l
      induction l with
      | nil => intro us hu _; rw [List.eq_nil_of_length_eq_zero hu]; exact .nil
      | cons a r ih =>
        intro us hu hx
        cases us with
        | nil => cases hu
        | cons u ur =>
          obtain ⟨k, x, e, hk⟩ := hx 0 u rfl
          cases e
          obtain ⟨t, rfl⟩ := PySem.Value.isInt_shape (k := k) (v := u) hk
          exact .cons k t (ih ur (by simpa using hu) fun j v e => hx (j + 1) v e)
    exact this kvs vs hlen hv
  have z := N' (D, listOf vs.toArray 0) (.head _)
  refine wpAny_call_entry slot_list_sort ⟨_, z.1, rfl⟩ entry_list_sort (list_sort_tree (n := 0) (vs := vs) z.1 hI (by omega) fun out ns' hI' hp hP => ⟨.none, rfl, ?_⟩) (args_list_sort _)
  obtain ⟨e, he⟩ := sortedHeap_at (n := 0) (out := out) z.1
  have old : ∀ b o, b ≠ D → h'.get? b = some o → (sortedHeap h' D vs out).get? b = some o := fun b o hb hx => by
    rw [sortedHeap_old hb (Heap.lt_size hx)]; exact hx
  have nD : h₀.get? D = none := z.2.2
  refine h D _ tk e out.toList ns' ⟨F'.ns.at' fun o e => old _ o (Ne.symm z.2.1) e, fun b o e => old b o (fun q => by rw [q, nD] at e; cases e) (F'.keep b o e), F'.above⟩ (fun q hq => ?_) hl hI' hp hP
  rcases List.mem_cons.mp hq with rfl | hq
  · refine ⟨?_, z.2⟩
    rw [Array.toArray_toList]; exact he
  · have y := N' q (List.mem_cons_of_mem _ hq)
    exact ⟨old _ _ (Nat.ne_of_lt (hl q hq)) y.1, y.2⟩
end
end Mine
end
theorem Mine.rs_InOrder : True := by
  w_top off
  trivial
section
open PySem PySem.W PyProof.Rows PySem.Calls
namespace Mine
theorem ints_one {vs : List Value} {a : Int} (h : IntsAre vs [a]) : ∃ t, vs = [.int a t] := by
  cases h with | cons _ t r => cases r; exact ⟨t, rfl⟩
theorem isInt_key {prog : Program} {w : World} {n : Int} {t : Tok} : (intKind prog w).is n (.int n t) = true := by show PySem.Value.isInt n (.int n t) = true; simp [PySem.Value.isInt]
theorem valueAt_one {n : Int} {v : Value} : valueAt [(n, v)] n = some v := by simp [valueAt]
namespace C_in_order_ex
noncomputable abbrev XX : Type := (World) × (Program) × (List PySem.Str) × (ExcName → Option Value) × (PySem.Str → Option Value) × (PySem.Str → Option Value) × (Nat) × (Nat) × (Option (List Code)) × (PySem.Str) × (Scope) × (Addr) × (Value) × (List (PySem.Str × Addr)) × (List Env) × (Around) × (Heap) × (Heap) × (Addr) × (PySem.Str → Option Value) × (List (Addr × Obj)) × (Shared) × (Value → Shared → Prop) × (Value → Shared → Prop) × (Addr) × (Addr) × (Addr) × (Nat) × (Tok) × (Tok) × (Tok) × (Tok) × (Tok) × (Tok) × (Tok) × (Tok) × (Tok) × (Tok) × (Int) × (Value) × (Addr) × (Addr) × (Bool)
noncomputable def StX (w : World) (p : Program) (loose : List PySem.Str) (mean : ExcName → Option Value) (mg : PySem.Str → Option Value) (mb : PySem.Str → Option Value) (dp : Nat) (un : Nat) (gd : Option (List Code)) (cn : PySem.Str) (cs : Scope) (a : Addr) (ccd : Value) (cl : List (PySem.Str × Addr)) (outer : List Env) (A₀ : Around) (base : Heap) (h₀ : Heap) (L : Addr) (m : PySem.Str → Option Value) (R : List (Addr × Obj)) (s : Shared) (Q : Value → Shared → Prop) (E : Value → Shared → Prop) (tl : Addr) (x : Addr) (d : Addr) (n1 : Nat) (t1 : Tok) (t2 : Tok) (t3 : Tok) (t4 : Tok) (t5 : Tok) (t6 : Tok) (t7 : Tok) (t8 : Tok) (tn : Tok) (tc : Tok) (num : Int) (bl : Value) (wk : Addr) (it : Addr) (dest : Bool) : Prop :=
  ∀ (B : Below A₀ base outer h₀) (F : Fr h₀ L s.heap m) (X : (hd.heap_1 w.params).In h₀) (N : News h₀ L s.heap ([(tl, listOf #[.ref x] n1), (x, instObj 78 d), (d, thingD w.params t1 t2 t3 t4 t5 t6 t7 t8 tn tc num 0 bl wk dest false it)] ++ R)) (T : Top p loose mean mg mb h₀) (hk : cs.kind = .function) (hoff : AllOff R [(tl, listOf #[.ref x] n1), (x, instObj 78 d), (d, thingD w.params t1 t2 t3 t4 t5 t6 t7 t8 tn tc num 0 bl wk dest false it)]) (hd : dp + 1 < recursionLimit) (hu : un + 8 < cLine) (ret : ∀ D h' tk' n', Fr h₀ L h' m → News h₀ L h' ([(D, listOf #[.ref x] n'), (tl, listOf #[.ref x] n1), (x, instObj 78 d), (d, thingD w.params t1 t2 t3 t4 t5 t6 t7 t8 tn tc num 0 bl wk dest false it)] ++ R) →
    @Ne Nat tl D → @Ne Nat x D → @Ne Nat d D → (∀ p ∈ R, p.1 ≠ D) → Q (.ref D) { s with heap := h', toks := tk' }), wpAny (model PySem.Challenge.rw_qz0092_01.row.prog w) (ktrTop dp un gd cn cs L a ccd cl outer) (call (.ref 267) [.ref tl]) Q E s
theorem neX : Nonempty XX := by
  refine ⟨?_⟩
  repeat' (first | exact default | exact aWorld 1 | constructor | intro _)
noncomputable def cX : XX := @Classical.epsilon XX neX fun x => ¬ StX (x.1) (x.2.1) (x.2.2.1) (x.2.2.2.1) (x.2.2.2.2.1) (x.2.2.2.2.2.1) (x.2.2.2.2.2.2.1) (x.2.2.2.2.2.2.2.1) (x.2.2.2.2.2.2.2.2.1) (x.2.2.2.2.2.2.2.2.2.1) (x.2.2.2.2.2.2.2.2.2.2.1) (x.2.2.2.2.2.2.2.2.2.2.2.1) (x.2.2.2.2.2.2.2.2.2.2.2.2.1) (x.2.2.2.2.2.2.2.2.2.2.2.2.2.1) (x.2.2.2.2.2.2.2.2.2.2.2.2.2.2.1) (x.2.2.2.2.2.2.2.2.2.2.2.2.2.2.2.1) (x.2.2.2.2.2.2.2.2.2.2.2.2.2.2.2.2.1) (x.2.2.2.2.2.2.2.2.2.2.2.2.2.2.2.2.2.1) (x.2.2.2.2.2.2.2.2.2.2.2.2.2.2.2.2.2.2.1) (x.2.2.2.2.2.2.2.2.2.2.2.2.2.2.2.2.2.2.2.1) (x.2.2.2.2.2.2.2.2.2.2.2.2.2.2.2.2.2.2.2.2.1) (x.2.2.2.2.2.2.2.2.2.2.2.2.2.2.2.2.2.2.2.2.2.1) (x.2.2.2.2.2.2.2.2.2.2.2.2.2.2.2.2.2.2.2.2.2.2.1) (x.2.2.2.2.2.2.2.2.2.2.2.2.2.2.2.2.2.2.2.2.2.2.2.1) (x.2.2.2.2.2.2.2.2.2.2.2.2.2.2.2.2.2.2.2.2.2.2.2.2.1) (x.2.2.2.2.2.2.2.2.2.2.2.2.2.2.2.2.2.2.2.2.2.2.2.2.2.1) (x.2.2.2.2.2.2.2.2.2.2.2.2.2.2.2.2.2.2.2.2.2.2.2.2.2.2.1) (x.2.2.2.2.2.2.2.2.2.2.2.2.2.2.2.2.2.2.2.2.2.2.2.2.2.2.2.1) (x.2.2.2.2.2.2.2.2.2.2.2.2.2.2.2.2.2.2.2.2.2.2.2.2.2.2.2.2.1) (x.2.2.2.2.2.2.2.2.2.2.2.2.2.2.2.2.2.2.2.2.2.2.2.2.2.2.2.2.2.1) (x.2.2.2.2.2.2.2.2.2.2.2.2.2.2.2.2.2.2.2.2.2.2.2.2.2.2.2.2.2.2.1) (x.2.2.2.2.2.2.2.2.2.2.2.2.2.2.2.2.2.2.2.2.2.2.2.2.2.2.2.2.2.2.2.1) (x.2.2.2.2.2.2.2.2.2.2.2.2.2.2.2.2.2.2.2.2.2.2.2.2.2.2.2.2.2.2.2.2.1) (x.2.2.2.2.2.2.2.2.2.2.2.2.2.2.2.2.2.2.2.2.2.2.2.2.2.2.2.2.2.2.2.2.2.1) (x.2.2.2.2.2.2.2.2.2.2.2.2.2.2.2.2.2.2.2.2.2.2.2.2.2.2.2.2.2.2.2.2.2.2.1) (x.2.2.2.2.2.2.2.2.2.2.2.2.2.2.2.2.2.2.2.2.2.2.2.2.2.2.2.2.2.2.2.2.2.2.2.1) (x.2.2.2.2.2.2.2.2.2.2.2.2.2.2.2.2.2.2.2.2.2.2.2.2.2.2.2.2.2.2.2.2.2.2.2.2.1) (x.2.2.2.2.2.2.2.2.2.2.2.2.2.2.2.2.2.2.2.2.2.2.2.2.2.2.2.2.2.2.2.2.2.2.2.2.2.1) (x.2.2.2.2.2.2.2.2.2.2.2.2.2.2.2.2.2.2.2.2.2.2.2.2.2.2.2.2.2.2.2.2.2.2.2.2.2.2.1) (x.2.2.2.2.2.2.2.2.2.2.2.2.2.2.2.2.2.2.2.2.2.2.2.2.2.2.2.2.2.2.2.2.2.2.2.2.2.2.2.1) (x.2.2.2.2.2.2.2.2.2.2.2.2.2.2.2.2.2.2.2.2.2.2.2.2.2.2.2.2.2.2.2.2.2.2.2.2.2.2.2.2.1) (x.2.2.2.2.2.2.2.2.2.2.2.2.2.2.2.2.2.2.2.2.2.2.2.2.2.2.2.2.2.2.2.2.2.2.2.2.2.2.2.2.2.1) (x.2.2.2.2.2.2.2.2.2.2.2.2.2.2.2.2.2.2.2.2.2.2.2.2.2.2.2.2.2.2.2.2.2.2.2.2.2.2.2.2.2.2)
@[irreducible] noncomputable def w := cX.1
@[irreducible] noncomputable def p := cX.2.1
@[irreducible] noncomputable def loose := cX.2.2.1
@[irreducible] noncomputable def mean := cX.2.2.2.1
@[irreducible] noncomputable def mg := cX.2.2.2.2.1
@[irreducible] noncomputable def mb := cX.2.2.2.2.2.1
@[irreducible] noncomputable def dp := cX.2.2.2.2.2.2.1
@[irreducible] noncomputable def un := cX.2.2.2.2.2.2.2.1
@[irreducible] noncomputable def gd := cX.2.2.2.2.2.2.2.2.1
@[irreducible] noncomputable def cn := cX.2.2.2.2.2.2.2.2.2.1
@[irreducible] noncomputable def cs := cX.2.2.2.2.2.2.2.2.2.2.1
@[irreducible] noncomputable def a := cX.2.2.2.2.2.2.2.2.2.2.2.1
@[irreducible] noncomputable def ccd := cX.2.2.2.2.2.2.2.2.2.2.2.2.1
@[irreducible] noncomputable def cl := cX.2.2.2.2.2.2.2.2.2.2.2.2.2.1
@[irreducible] noncomputable def outer := cX.2.2.2.2.2.2.2.2.2.2.2.2.2.2.1
@[irreducible] noncomputable def A₀ := cX.2.2.2.2.2.2.2.2.2.2.2.2.2.2.2.1
@[irreducible] noncomputable def base := cX.2.2.2.2.2.2.2.2.2.2.2.2.2.2.2.2.1
@[irreducible] noncomputable def h₀ := cX.2.2.2.2.2.2.2.2.2.2.2.2.2.2.2.2.2.1
@[irreducible] noncomputable def L := cX.2.2.2.2.2.2.2.2.2.2.2.2.2.2.2.2.2.2.1
@[irreducible] noncomputable def m := cX.2.2.2.2.2.2.2.2.2.2.2.2.2.2.2.2.2.2.2.1
@[irreducible] noncomputable def R := cX.2.2.2.2.2.2.2.2.2.2.2.2.2.2.2.2.2.2.2.2.1
@[irreducible] noncomputable def s := cX.2.2.2.2.2.2.2.2.2.2.2.2.2.2.2.2.2.2.2.2.2.1
@[irreducible] noncomputable def Q := cX.2.2.2.2.2.2.2.2.2.2.2.2.2.2.2.2.2.2.2.2.2.2.1
@[irreducible] noncomputable def E := cX.2.2.2.2.2.2.2.2.2.2.2.2.2.2.2.2.2.2.2.2.2.2.2.1
@[irreducible] noncomputable def tl := cX.2.2.2.2.2.2.2.2.2.2.2.2.2.2.2.2.2.2.2.2.2.2.2.2.1
@[irreducible] noncomputable def x := cX.2.2.2.2.2.2.2.2.2.2.2.2.2.2.2.2.2.2.2.2.2.2.2.2.2.1
@[irreducible] noncomputable def d := cX.2.2.2.2.2.2.2.2.2.2.2.2.2.2.2.2.2.2.2.2.2.2.2.2.2.2.1
@[irreducible] noncomputable def n1 := cX.2.2.2.2.2.2.2.2.2.2.2.2.2.2.2.2.2.2.2.2.2.2.2.2.2.2.2.1
@[irreducible] noncomputable def t1 := cX.2.2.2.2.2.2.2.2.2.2.2.2.2.2.2.2.2.2.2.2.2.2.2.2.2.2.2.2.1
@[irreducible] noncomputable def t2 := cX.2.2.2.2.2.2.2.2.2.2.2.2.2.2.2.2.2.2.2.2.2.2.2.2.2.2.2.2.2.1
@[irreducible] noncomputable def t3 := cX.2.2.2.2.2.2.2.2.2.2.2.2.2.2.2.2.2.2.2.2.2.2.2.2.2.2.2.2.2.2.1
@[irreducible] noncomputable def t4 := cX.2.2.2.2.2.2.2.2.2.2.2.2.2.2.2.2.2.2.2.2.2.2.2.2.2.2.2.2.2.2.2.1
@[irreducible] noncomputable def t5 := cX.2.2.2.2.2.2.2.2.2.2.2.2.2.2.2.2.2.2.2.2.2.2.2.2.2.2.2.2.2.2.2.2.1
@[irreducible] noncomputable def t6 := cX.2.2.2.2.2.2.2.2.2.2.2.2.2.2.2.2.2.2.2.2.2.2.2.2.2.2.2.2.2.2.2.2.2.1
@[irreducible] noncomputable def t7 := cX.2.2.2.2.2.2.2.2.2.2.2.2.2.2.2.2.2.2.2.2.2.2.2.2.2.2.2.2.2.2.2.2.2.2.1
@[irreducible] noncomputable def t8 := cX.2.2.2.2.2.2.2.2.2.2.2.2.2.2.2.2.2.2.2.2.2.2.2.2.2.2.2.2.2.2.2.2.2.2.2.1
@[irreducible] noncomputable def tn := cX.2.2.2.2.2.2.2.2.2.2.2.2.2.2.2.2.2.2.2.2.2.2.2.2.2.2.2.2.2.2.2.2.2.2.2.2.1
@[irreducible] noncomputable def tc := cX.2.2.2.2.2.2.2.2.2.2.2.2.2.2.2.2.2.2.2.2.2.2.2.2.2.2.2.2.2.2.2.2.2.2.2.2.2.1
@[irreducible] noncomputable def num := cX.2.2.2.2.2.2.2.2.2.2.2.2.2.2.2.2.2.2.2.2.2.2.2.2.2.2.2.2.2.2.2.2.2.2.2.2.2.2.1
@[irreducible] noncomputable def bl := cX.2.2.2.2.2.2.2.2.2.2.2.2.2.2.2.2.2.2.2.2.2.2.2.2.2.2.2.2.2.2.2.2.2.2.2.2.2.2.2.1
@[irreducible] noncomputable def wk := cX.2.2.2.2.2.2.2.2.2.2.2.2.2.2.2.2.2.2.2.2.2.2.2.2.2.2.2.2.2.2.2.2.2.2.2.2.2.2.2.2.1
@[irreducible] noncomputable def it := cX.2.2.2.2.2.2.2.2.2.2.2.2.2.2.2.2.2.2.2.2.2.2.2.2.2.2.2.2.2.2.2.2.2.2.2.2.2.2.2.2.2.1
@[irreducible] noncomputable def dest := cX.2.2.2.2.2.2.2.2.2.2.2.2.2.2.2.2.2.2.2.2.2.2.2.2.2.2.2.2.2.2.2.2.2.2.2.2.2.2.2.2.2.2
theorem core : StX w p loose mean mg mb dp un gd cn cs a ccd cl outer A₀ base h₀ L m R s Q E tl x d n1 t1 t2 t3 t4 t5 t6 t7 t8 tn tc num bl wk it dest := by
  unfold StX
  intro B F X N T hk hoff hd hu ret
  revert X; k_fill; intro X
  refine wpAny_call ?_
  k_dflt (first | (refine' Mine.code_defR ?k1 ?k2 ?k3 ?k4 ?k5 ?kA ?kF ?kK ?k6 ?k7 ?k8 ?k9 ?kB ?kO ?_ ?c2 ?c3 ?c4 ?c5; (case kA => exact rfl); (case kF => exact rfl); (case kK => assumption); (case k1 => k_asm); (case k2 => k_asm); (case k3 => k_asm); (case k4 => k_asm); (case k5 => k_asm); (case k6 => k_is); (case k7 => k_is); (case k8 => ktr_room); (case k9 => exact BindsTo.of_eq rfl); (case c5 => decide); (case kB => exact locs rfl); (case kO => assumption); (case c2 => exact rfl); (case c3 => exact rfl); (case c4 => exact rfl); k_whole; intro g' L' h' HR' FG' F' N' B' X' T' l1; (try k_lt l1); (try dsimp only); (have lL := Mine.lt_frames FG' F'); (try k_fold)) | (refine' Mine.code_defRC ?k1 ?k2 ?k3 ?k4 ?k5 ?kA ?kF ?kK ?k6 ?k7 ?k8 ?k9 ?kB ?kD ?kO ?_ ?c2 ?c3 ?c4; (case kA => exact rfl); (case kF => exact rfl); (case kK => assumption); (case k1 => k_asm); (case k2 => k_asm); (case k3 => k_asm); (case k4 => k_asm); (case k5 => k_asm); (case k6 => k_is); (case k7 => k_is); (case k8 => ktr_room); (case k9 => exact BindsTo.of_eq rfl); (case kB => exact rfl); (case kD => decide +kernel); (case kO => assumption); (case c2 => exact rfl); (case c3 => exact rfl); (case c4 => exact rfl); k_whole; intro g' L' h' tk' cells' HR' FG' F' N' Y' B' X' T' l1; (try k_lt l1); k_cells Y'; (try simp only [List.cons_append, List.nil_append] at N'); (try dsimp only); (try k_lift B'); (have lL := Mine.lt_frames FG' F'); (try k_fold)) | fail "no entry")
  repeat' (first | (k_unfold; (try dsimp only)) | (k_end; wrow_close) | (k_here; k_dflt (refine' Mine.sorted_dict ?y0lo ?y0hh ?y0F ?y0N ?y0hm ?y0hd ?y0hn ?_; (case y0F => k_asm); (case y0N => k_asm); (case y0hm => k_mem); (case y0lo => assumption); (case y0hh => rfl); (case y0hd => assumption); (case y0hn => (simp only [List.length_cons, List.length_nil]; omega))); intro D' h' tk' c' vs' ns' F' N' l1 hI' hp' ho'; (k_lt l1); (have e9 := List.perm_singleton.mp hp'); subst e9; (obtain ⟨t9, e8⟩ := Mine.ints_one hI'); subst e8) | (k_here; (with_reducible show wpAny _ _ (subscriptTail _ _ (Value.ref _) (Value.int _ _)) _ _ _); k_dflt (refine' kda_item (knd := PySem.intKind _ _) ?y1N ?y1hp ?y1hd ?y1hkey ?y1hl ?_; (case y1N => k_asm); (case y1hp => k_mem); (case y1hd => assumption); (case y1hkey => exact Mine.isInt_key); (case y1hl => exact Mine.valueAt_one))) | walk1 | (dsimp only; walk1) | (leave1; walk_say "STEP leave1"; try dsimp only) | fail "no step")
  rename News h₀ L _ R => NR
  rename News h₀ L _ (_ :: _) => NE
  rename InBase R _ => HR
  exact ret _ _ _ _ (by assumption) (news_app (news_sub NE (by lcg_sub)) NR) (by omega) (by omega) (by omega) (HR.ne (by assumption) (.head _))
theorem all (x : XX) : StX (x.1) (x.2.1) (x.2.2.1) (x.2.2.2.1) (x.2.2.2.2.1) (x.2.2.2.2.2.1) (x.2.2.2.2.2.2.1) (x.2.2.2.2.2.2.2.1) (x.2.2.2.2.2.2.2.2.1) (x.2.2.2.2.2.2.2.2.2.1) (x.2.2.2.2.2.2.2.2.2.2.1) (x.2.2.2.2.2.2.2.2.2.2.2.1) (x.2.2.2.2.2.2.2.2.2.2.2.2.1) (x.2.2.2.2.2.2.2.2.2.2.2.2.2.1) (x.2.2.2.2.2.2.2.2.2.2.2.2.2.2.1) (x.2.2.2.2.2.2.2.2.2.2.2.2.2.2.2.1) (x.2.2.2.2.2.2.2.2.2.2.2.2.2.2.2.2.1) (x.2.2.2.2.2.2.2.2.2.2.2.2.2.2.2.2.2.1) (x.2.2.2.2.2.2.2.2.2.2.2.2.2.2.2.2.2.2.1) (x.2.2.2.2.2.2.2.2.2.2.2.2.2.2.2.2.2.2.2.1) (x.2.2.2.2.2.2.2.2.2.2.2.2.2.2.2.2.2.2.2.2.1) (x.2.2.2.2.2.2.2.2.2.2.2.2.2.2.2.2.2.2.2.2.2.1) (x.2.2.2.2.2.2.2.2.2.2.2.2.2.2.2.2.2.2.2.2.2.2.1) (x.2.2.2.2.2.2.2.2.2.2.2.2.2.2.2.2.2.2.2.2.2.2.2.1) (x.2.2.2.2.2.2.2.2.2.2.2.2.2.2.2.2.2.2.2.2.2.2.2.2.1) (x.2.2.2.2.2.2.2.2.2.2.2.2.2.2.2.2.2.2.2.2.2.2.2.2.2.1) (x.2.2.2.2.2.2.2.2.2.2.2.2.2.2.2.2.2.2.2.2.2.2.2.2.2.2.1) (x.2.2.2.2.2.2.2.2.2.2.2.2.2.2.2.2.2.2.2.2.2.2.2.2.2.2.2.1) (x.2.2.2.2.2.2.2.2.2.2.2.2.2.2.2.2.2.2.2.2.2.2.2.2.2.2.2.2.1) (x.2.2.2.2.2.2.2.2.2.2.2.2.2.2.2.2.2.2.2.2.2.2.2.2.2.2.2.2.2.1) (x.2.2.2.2.2.2.2.2.2.2.2.2.2.2.2.2.2.2.2.2.2.2.2.2.2.2.2.2.2.2.1) (x.2.2.2.2.2.2.2.2.2.2.2.2.2.2.2.2.2.2.2.2.2.2.2.2.2.2.2.2.2.2.2.1) (x.2.2.2.2.2.2.2.2.2.2.2.2.2.2.2.2.2.2.2.2.2.2.2.2.2.2.2.2.2.2.2.2.1) (x.2.2.2.2.2.2.2.2.2.2.2.2.2.2.2.2.2.2.2.2.2.2.2.2.2.2.2.2.2.2.2.2.2.1) (x.2.2.2.2.2.2.2.2.2.2.2.2.2.2.2.2.2.2.2.2.2.2.2.2.2.2.2.2.2.2.2.2.2.2.1) (x.2.2.2.2.2.2.2.2.2.2.2.2.2.2.2.2.2.2.2.2.2.2.2.2.2.2.2.2.2.2.2.2.2.2.2.1) (x.2.2.2.2.2.2.2.2.2.2.2.2.2.2.2.2.2.2.2.2.2.2.2.2.2.2.2.2.2.2.2.2.2.2.2.2.1) (x.2.2.2.2.2.2.2.2.2.2.2.2.2.2.2.2.2.2.2.2.2.2.2.2.2.2.2.2.2.2.2.2.2.2.2.2.2.1) (x.2.2.2.2.2.2.2.2.2.2.2.2.2.2.2.2.2.2.2.2.2.2.2.2.2.2.2.2.2.2.2.2.2.2.2.2.2.2.1) (x.2.2.2.2.2.2.2.2.2.2.2.2.2.2.2.2.2.2.2.2.2.2.2.2.2.2.2.2.2.2.2.2.2.2.2.2.2.2.2.1) (x.2.2.2.2.2.2.2.2.2.2.2.2.2.2.2.2.2.2.2.2.2.2.2.2.2.2.2.2.2.2.2.2.2.2.2.2.2.2.2.2.1) (x.2.2.2.2.2.2.2.2.2.2.2.2.2.2.2.2.2.2.2.2.2.2.2.2.2.2.2.2.2.2.2.2.2.2.2.2.2.2.2.2.2.1) (x.2.2.2.2.2.2.2.2.2.2.2.2.2.2.2.2.2.2.2.2.2.2.2.2.2.2.2.2.2.2.2.2.2.2.2.2.2.2.2.2.2.2) := eps_all (ne := neX) (P := fun x => StX (x.1) (x.2.1) (x.2.2.1) (x.2.2.2.1) (x.2.2.2.2.1) (x.2.2.2.2.2.1) (x.2.2.2.2.2.2.1) (x.2.2.2.2.2.2.2.1) (x.2.2.2.2.2.2.2.2.1) (x.2.2.2.2.2.2.2.2.2.1) (x.2.2.2.2.2.2.2.2.2.2.1) (x.2.2.2.2.2.2.2.2.2.2.2.1) (x.2.2.2.2.2.2.2.2.2.2.2.2.1) (x.2.2.2.2.2.2.2.2.2.2.2.2.2.1) (x.2.2.2.2.2.2.2.2.2.2.2.2.2.2.1) (x.2.2.2.2.2.2.2.2.2.2.2.2.2.2.2.1) (x.2.2.2.2.2.2.2.2.2.2.2.2.2.2.2.2.1) (x.2.2.2.2.2.2.2.2.2.2.2.2.2.2.2.2.2.1) (x.2.2.2.2.2.2.2.2.2.2.2.2.2.2.2.2.2.2.1) (x.2.2.2.2.2.2.2.2.2.2.2.2.2.2.2.2.2.2.2.1) (x.2.2.2.2.2.2.2.2.2.2.2.2.2.2.2.2.2.2.2.2.1) (x.2.2.2.2.2.2.2.2.2.2.2.2.2.2.2.2.2.2.2.2.2.1) (x.2.2.2.2.2.2.2.2.2.2.2.2.2.2.2.2.2.2.2.2.2.2.1) (x.2.2.2.2.2.2.2.2.2.2.2.2.2.2.2.2.2.2.2.2.2.2.2.1) (x.2.2.2.2.2.2.2.2.2.2.2.2.2.2.2.2.2.2.2.2.2.2.2.2.1) (x.2.2.2.2.2.2.2.2.2.2.2.2.2.2.2.2.2.2.2.2.2.2.2.2.2.1) (x.2.2.2.2.2.2.2.2.2.2.2.2.2.2.2.2.2.2.2.2.2.2.2.2.2.2.1) (x.2.2.2.2.2.2.2.2.2.2.2.2.2.2.2.2.2.2.2.2.2.2.2.2.2.2.2.1) (x.2.2.2.2.2.2.2.2.2.2.2.2.2.2.2.2.2.2.2.2.2.2.2.2.2.2.2.2.1) (x.2.2.2.2.2.2.2.2.2.2.2.2.2.2.2.2.2.2.2.2.2.2.2.2.2.2.2.2.2.1) (x.2.2.2.2.2.2.2.2.2.2.2.2.2.2.2.2.2.2.2.2.2.2.2.2.2.2.2.2.2.2.1) (x.2.2.2.2.2.2.2.2.2.2.2.2.2.2.2.2.2.2.2.2.2.2.2.2.2.2.2.2.2.2.2.1) (x.2.2.2.2.2.2.2.2.2.2.2.2.2.2.2.2.2.2.2.2.2.2.2.2.2.2.2.2.2.2.2.2.1) (x.2.2.2.2.2.2.2.2.2.2.2.2.2.2.2.2.2.2.2.2.2.2.2.2.2.2.2.2.2.2.2.2.2.1) (x.2.2.2.2.2.2.2.2.2.2.2.2.2.2.2.2.2.2.2.2.2.2.2.2.2.2.2.2.2.2.2.2.2.2.1) (x.2.2.2.2.2.2.2.2.2.2.2.2.2.2.2.2.2.2.2.2.2.2.2.2.2.2.2.2.2.2.2.2.2.2.2.1) (x.2.2.2.2.2.2.2.2.2.2.2.2.2.2.2.2.2.2.2.2.2.2.2.2.2.2.2.2.2.2.2.2.2.2.2.2.1) (x.2.2.2.2.2.2.2.2.2.2.2.2.2.2.2.2.2.2.2.2.2.2.2.2.2.2.2.2.2.2.2.2.2.2.2.2.2.1) (x.2.2.2.2.2.2.2.2.2.2.2.2.2.2.2.2.2.2.2.2.2.2.2.2.2.2.2.2.2.2.2.2.2.2.2.2.2.2.1) (x.2.2.2.2.2.2.2.2.2.2.2.2.2.2.2.2.2.2.2.2.2.2.2.2.2.2.2.2.2.2.2.2.2.2.2.2.2.2.2.1) (x.2.2.2.2.2.2.2.2.2.2.2.2.2.2.2.2.2.2.2.2.2.2.2.2.2.2.2.2.2.2.2.2.2.2.2.2.2.2.2.2.1) (x.2.2.2.2.2.2.2.2.2.2.2.2.2.2.2.2.2.2.2.2.2.2.2.2.2.2.2.2.2.2.2.2.2.2.2.2.2.2.2.2.2.1) (x.2.2.2.2.2.2.2.2.2.2.2.2.2.2.2.2.2.2.2.2.2.2.2.2.2.2.2.2.2.2.2.2.2.2.2.2.2.2.2.2.2.2)) (by with_unfolding_all exact core) x
end C_in_order_ex
theorem in_order_ex {w : World}
  {p : Program}
  {loose : List PySem.Str}
  {mean : ExcName → Option Value}
  {mg mb : PySem.Str → Option Value}
  {dp un : Nat}
  {gd : Option (List Code)}
  {cn : PySem.Str}
  {cs : Scope}
  {a : Addr}
  {ccd : Value}
  {cl : List (PySem.Str × Addr)}
  {outer : List Env}
  {A₀ : Around}
  {base h₀ : Heap}
  {L : Addr}
  {m : PySem.Str → Option Value}
  {R : List (Addr × Obj)}
  {s : Shared}
  {Q E : Value → Shared → Prop}
  {tl x d : Addr}
  {n1 : Nat}
  {t1 t2 t3 t4 t5 t6 t7 t8 tn tc : Tok}
  {num : Int}
  {bl : Value}
  {wk it : Addr}
  {dest : Bool}
  (B : Below A₀ base outer h₀)
  (F : Fr h₀ L s.heap m)
  (X : (hd.heap_1 w.params).In h₀)
  (N : News h₀ L s.heap ([(tl, listOf #[.ref x] n1), (x, instObj 78 d), (d, thingD w.params t1 t2 t3 t4 t5 t6 t7 t8 tn tc num 0 bl wk dest false it)] ++ R))
  (T : Top p loose mean mg mb h₀)
  (hk : cs.kind = .function)
  (hoff : AllOff R [(tl, listOf #[.ref x] n1), (x, instObj 78 d), (d, thingD w.params t1 t2 t3 t4 t5 t6 t7 t8 tn tc num 0 bl wk dest false it)])
  (hd : dp + 1 < recursionLimit)
  (hu : un + 8 < cLine)
  (ret : ∀ D h' tk' n', Fr h₀ L h' m → News h₀ L h' ([(D, listOf #[.ref x] n'), (tl, listOf #[.ref x] n1), (x, instObj 78 d), (d, thingD w.params t1 t2 t3 t4 t5 t6 t7 t8 tn tc num 0 bl wk dest false it)] ++ R) →
    @Ne Nat tl D → @Ne Nat x D → @Ne Nat d D → (∀ p ∈ R, p.1 ≠ D) → Q (.ref D) { s with heap := h', toks := tk' }) : wpAny (model PySem.Challenge.rw_qz0092_01.row.prog w) (ktrTop dp un gd cn cs L a ccd cl outer) (call (.ref 267) [.ref tl]) Q E s :=
  C_in_order_ex.all (w, p, loose, mean, mg, mb, dp, un, gd, cn, cs, a, ccd, cl, outer, A₀, base, h₀, L, m, R, s, Q, E, tl, x, d, n1, t1, t2, t3, t4, t5, t6, t7, t8, tn, tc, num, bl, wk, it, dest) B F X N T hk hoff hd hu ret
theorem in_order_spec {w : World} {p : Program} {loose : List PySem.Str} {mean : ExcName → Option Value} {mg mb : PySem.Str → Option Value}
  {dp un : Nat} {gd : Option (List Code)} {cn : PySem.Str} {cs : Scope} {a : Addr} {ccd : Value} {cl : List (PySem.Str × Addr)} {outer : List Env} {A₀ : Around} {base h₀ : Heap} {L : Addr} {m : PySem.Str → Option Value} {news : List (Addr × Obj)} {s : Shared}
  {Q E : Value → Shared → Prop} {tl x d : Addr} {n1 : Nat} {t1 t2 t3 t4 t5 t6 t7 t8 tn tc : Tok} {num : Int} {bl : Value} {wk it : Addr} {dest : Bool}
  (B : Below A₀ base outer h₀) (F : Fr h₀ L s.heap m) (X : (hd.heap_1 w.params).In h₀)
  (N : News h₀ L s.heap news) (m1 : (tl, listOf #[.ref x] n1) ∈ news) (m2 : (x, instObj 78 d) ∈ news) (m3 : (d, thingD w.params t1 t2 t3 t4 t5 t6 t7 t8 tn tc num 0 bl wk dest false it) ∈ news)
  (T : Top p loose mean mg mb h₀) (hk : cs.kind = .function)
  (hd : dp + 1 < recursionLimit) (hu : un + 8 < cLine)
  (ret : ∀ D h' tk' n', Fr h₀ L h' m → News h₀ L h' ((D, listOf #[.ref x] n') :: news) → (∀ p ∈ news, p.1 ≠ D) → Q (.ref D) { s with heap := h', toks := tk' }) :
  wpAny (model PySem.Challenge.rw_qz0092_01.row.prog w) (ktrTop dp un gd cn cs L a ccd cl outer) (call (.ref 267) [.ref tl]) Q E s := by
  obtain ⟨R, N', ho, hs, _⟩ := split_news (Ex := [(tl, listOf #[.ref x] n1), (x, instObj 78 d), (d, thingD w.params t1 t2 t3 t4 t5 t6 t7 t8 tn tc num 0 bl wk dest false it)]) N (by simp only [List.forall_mem_cons]; exact ⟨m1, m2, m3, fun _ h => nomatch h⟩)
  refine in_order_ex B F X N' T hk ho hd hu fun D h' tk' n' F' N2 e1 e2 e3 e4 => ret D h' tk' n' F' (fun p hp => ?_) fun p hp => ?_
  · rcases List.mem_cons.mp hp with rfl | hp
    · exact N2 _ (.head _)
    · exact N2 p (.tail _ (hs p hp))
  · rcases List.mem_append.mp (hs p hp) with h | h
    · replace h := mem_ors h
      rcases h with rfl | rfl | rfl
      · exact e1
      · exact e2
      · exact e3
    · exact e4 p h
end Mine
end
theorem Mine.rs_Free : True := by
  w_top off
  trivial
section
open PySem PySem.W PyProof.Rows PySem.Calls
namespace Mine
namespace C_free_ex
noncomputable abbrev XX : Type := (World) × (Program) × (List PySem.Str) × (ExcName → Option Value) × (PySem.Str → Option Value) × (PySem.Str → Option Value) × (Nat) × (Nat) × (Option (List Code)) × (PySem.Str) × (Scope) × (Addr) × (Value) × (List (PySem.Str × Addr)) × (List Env) × (Around) × (Heap) × (Heap) × (Addr) × (PySem.Str → Option Value) × (Shared) × (Value → Shared → Prop) × (Value → Shared → Prop) × (List (Addr × Obj)) × (Addr) × (Addr) × (Addr) × (Nat) × (Nat) × (Tok) × (Tok) × (Tok) × (Tok) × (Tok) × (Tok) × (Tok) × (Tok) × (Tok) × (Tok) × (Int) × (Int) × (Value) × (Addr) × (Addr) × (Bool)
noncomputable def StX (w : World) (p : Program) (loose : List PySem.Str) (mean : ExcName → Option Value) (mg : PySem.Str → Option Value) (mb : PySem.Str → Option Value) (dp : Nat) (un : Nat) (gd : Option (List Code)) (cn : PySem.Str) (cs : Scope) (a : Addr) (ccd : Value) (cl : List (PySem.Str × Addr)) (outer : List Env) (A₀ : Around) (base : Heap) (h₀ : Heap) (L : Addr) (m : PySem.Str → Option Value) (s : Shared) (Q : Value → Shared → Prop) (E : Value → Shared → Prop) (R : List (Addr × Obj)) (xc : Addr) (x : Addr) (d : Addr) (nw : Nat) (ni : Nat) (t1 : Tok) (t2 : Tok) (t3 : Tok) (t4 : Tok) (t5 : Tok) (t6 : Tok) (t7 : Tok) (t8 : Tok) (tn : Tok) (tc : Tok) (num : Int) (cnt : Int) (bl : Value) (wk : Addr) (it : Addr) (dest : Bool) : Prop :=
  ∀ (B : Below A₀ base outer h₀) (F : Fr h₀ L s.heap m) (X : (hd.heap_1 w.params).In h₀) (T : Top p loose mean mg mb h₀) (hk : cs.kind = .function) (N : News h₀ L s.heap ([(x, instObj 78 d), (d, thingD w.params t1 t2 t3 t4 t5 t6 t7 t8 tn tc num cnt bl wk dest false it), (wk, listOf #[] nw), (it, listOf #[] ni)] ++ R)) (hoff : AllOff R [(x, instObj 78 d), (d, thingD w.params t1 t2 t3 t4 t5 t6 t7 t8 tn tc num cnt bl wk dest false it), (wk, listOf #[] nw), (it, listOf #[] ni)]) (e1 : @Ne Nat x d) (e2 : @Ne Nat wk d) (e3 : @Ne Nat it d) (hd : dp + 3 < recursionLimit) (hu : un + 24 < cLine) (ret : ∀ h' tk' wk' it', Fr h₀ L h' m → News h₀ L h' ([(x, instObj 78 d), (d, thingD w.params t1 t2 t3 t4 t5 t6 t7 t8 tn tc num cnt bl wk' dest true it'), (wk, listOf #[] nw), (it, listOf #[] ni)] ++ R) → Q .none { s with heap := h', toks := tk' }), wpAny (model PySem.Challenge.rw_qz0092_01.row.prog w) (ktrTop dp un gd cn cs L a ccd cl outer) (call (.ref 356) [.ref xc, .ref x]) Q E s
theorem neX : Nonempty XX := by
  refine ⟨?_⟩
  repeat' (first | exact default | exact aWorld 1 | constructor | intro _)
noncomputable def cX : XX := @Classical.epsilon XX neX fun x => ¬ StX (x.1) (x.2.1) (x.2.2.1) (x.2.2.2.1) (x.2.2.2.2.1) (x.2.2.2.2.2.1) (x.2.2.2.2.2.2.1) (x.2.2.2.2.2.2.2.1) (x.2.2.2.2.2.2.2.2.1) (x.2.2.2.2.2.2.2.2.2.1) (x.2.2.2.2.2.2.2.2.2.2.1) (x.2.2.2.2.2.2.2.2.2.2.2.1) (x.2.2.2.2.2.2.2.2.2.2.2.2.1) (x.2.2.2.2.2.2.2.2.2.2.2.2.2.1) (x.2.2.2.2.2.2.2.2.2.2.2.2.2.2.1) (x.2.2.2.2.2.2.2.2.2.2.2.2.2.2.2.1) (x.2.2.2.2.2.2.2.2.2.2.2.2.2.2.2.2.1) (x.2.2.2.2.2.2.2.2.2.2.2.2.2.2.2.2.2.1) (x.2.2.2.2.2.2.2.2.2.2.2.2.2.2.2.2.2.2.1) (x.2.2.2.2.2.2.2.2.2.2.2.2.2.2.2.2.2.2.2.1) (x.2.2.2.2.2.2.2.2.2.2.2.2.2.2.2.2.2.2.2.2.1) (x.2.2.2.2.2.2.2.2.2.2.2.2.2.2.2.2.2.2.2.2.2.1) (x.2.2.2.2.2.2.2.2.2.2.2.2.2.2.2.2.2.2.2.2.2.2.1) (x.2.2.2.2.2.2.2.2.2.2.2.2.2.2.2.2.2.2.2.2.2.2.2.1) (x.2.2.2.2.2.2.2.2.2.2.2.2.2.2.2.2.2.2.2.2.2.2.2.2.1) (x.2.2.2.2.2.2.2.2.2.2.2.2.2.2.2.2.2.2.2.2.2.2.2.2.2.1) (x.2.2.2.2.2.2.2.2.2.2.2.2.2.2.2.2.2.2.2.2.2.2.2.2.2.2.1) (x.2.2.2.2.2.2.2.2.2.2.2.2.2.2.2.2.2.2.2.2.2.2.2.2.2.2.2.1) (x.2.2.2.2.2.2.2.2.2.2.2.2.2.2.2.2.2.2.2.2.2.2.2.2.2.2.2.2.1) (x.2.2.2.2.2.2.2.2.2.2.2.2.2.2.2.2.2.2.2.2.2.2.2.2.2.2.2.2.2.1) (x.2.2.2.2.2.2.2.2.2.2.2.2.2.2.2.2.2.2.2.2.2.2.2.2.2.2.2.2.2.2.1) (x.2.2.2.2.2.2.2.2.2.2.2.2.2.2.2.2.2.2.2.2.2.2.2.2.2.2.2.2.2.2.2.1) (x.2.2.2.2.2.2.2.2.2.2.2.2.2.2.2.2.2.2.2.2.2.2.2.2.2.2.2.2.2.2.2.2.1) (x.2.2.2.2.2.2.2.2.2.2.2.2.2.2.2.2.2.2.2.2.2.2.2.2.2.2.2.2.2.2.2.2.2.1) (x.2.2.2.2.2.2.2.2.2.2.2.2.2.2.2.2.2.2.2.2.2.2.2.2.2.2.2.2.2.2.2.2.2.2.1) (x.2.2.2.2.2.2.2.2.2.2.2.2.2.2.2.2.2.2.2.2.2.2.2.2.2.2.2.2.2.2.2.2.2.2.2.1) (x.2.2.2.2.2.2.2.2.2.2.2.2.2.2.2.2.2.2.2.2.2.2.2.2.2.2.2.2.2.2.2.2.2.2.2.2.1) (x.2.2.2.2.2.2.2.2.2.2.2.2.2.2.2.2.2.2.2.2.2.2.2.2.2.2.2.2.2.2.2.2.2.2.2.2.2.1) (x.2.2.2.2.2.2.2.2.2.2.2.2.2.2.2.2.2.2.2.2.2.2.2.2.2.2.2.2.2.2.2.2.2.2.2.2.2.2.1) (x.2.2.2.2.2.2.2.2.2.2.2.2.2.2.2.2.2.2.2.2.2.2.2.2.2.2.2.2.2.2.2.2.2.2.2.2.2.2.2.1) (x.2.2.2.2.2.2.2.2.2.2.2.2.2.2.2.2.2.2.2.2.2.2.2.2.2.2.2.2.2.2.2.2.2.2.2.2.2.2.2.2.1) (x.2.2.2.2.2.2.2.2.2.2.2.2.2.2.2.2.2.2.2.2.2.2.2.2.2.2.2.2.2.2.2.2.2.2.2.2.2.2.2.2.2.1) (x.2.2.2.2.2.2.2.2.2.2.2.2.2.2.2.2.2.2.2.2.2.2.2.2.2.2.2.2.2.2.2.2.2.2.2.2.2.2.2.2.2.2.1) (x.2.2.2.2.2.2.2.2.2.2.2.2.2.2.2.2.2.2.2.2.2.2.2.2.2.2.2.2.2.2.2.2.2.2.2.2.2.2.2.2.2.2.2.1) (x.2.2.2.2.2.2.2.2.2.2.2.2.2.2.2.2.2.2.2.2.2.2.2.2.2.2.2.2.2.2.2.2.2.2.2.2.2.2.2.2.2.2.2.2)
@[irreducible] noncomputable def w := cX.1
@[irreducible] noncomputable def p := cX.2.1
@[irreducible] noncomputable def loose := cX.2.2.1
@[irreducible] noncomputable def mean := cX.2.2.2.1
@[irreducible] noncomputable def mg := cX.2.2.2.2.1
@[irreducible] noncomputable def mb := cX.2.2.2.2.2.1
@[irreducible] noncomputable def dp := cX.2.2.2.2.2.2.1
@[irreducible] noncomputable def un := cX.2.2.2.2.2.2.2.1
@[irreducible] noncomputable def gd := cX.2.2.2.2.2.2.2.2.1
@[irreducible] noncomputable def cn := cX.2.2.2.2.2.2.2.2.2.1
@[irreducible] noncomputable def cs := cX.2.2.2.2.2.2.2.2.2.2.1
@[irreducible] noncomputable def a := cX.2.2.2.2.2.2.2.2.2.2.2.1
@[irreducible] noncomputable def ccd := cX.2.2.2.2.2.2.2.2.2.2.2.2.1
@[irreducible] noncomputable def cl := cX.2.2.2.2.2.2.2.2.2.2.2.2.2.1
@[irreducible] noncomputable def outer := cX.2.2.2.2.2.2.2.2.2.2.2.2.2.2.1
@[irreducible] noncomputable def A₀ := cX.2.2.2.2.2.2.2.2.2.2.2.2.2.2.2.1
@[irreducible] noncomputable def base := cX.2.2.2.2.2.2.2.2.2.2.2.2.2.2.2.2.1
@[irreducible] noncomputable def h₀ := cX.2.2.2.2.2.2.2.2.2.2.2.2.2.2.2.2.2.1
@[irreducible] noncomputable def L := cX.2.2.2.2.2.2.2.2.2.2.2.2.2.2.2.2.2.2.1
@[irreducible] noncomputable def m := cX.2.2.2.2.2.2.2.2.2.2.2.2.2.2.2.2.2.2.2.1
@[irreducible] noncomputable def s := cX.2.2.2.2.2.2.2.2.2.2.2.2.2.2.2.2.2.2.2.2.1
@[irreducible] noncomputable def Q := cX.2.2.2.2.2.2.2.2.2.2.2.2.2.2.2.2.2.2.2.2.2.1
@[irreducible] noncomputable def E := cX.2.2.2.2.2.2.2.2.2.2.2.2.2.2.2.2.2.2.2.2.2.2.1
@[irreducible] noncomputable def R := cX.2.2.2.2.2.2.2.2.2.2.2.2.2.2.2.2.2.2.2.2.2.2.2.1
@[irreducible] noncomputable def xc := cX.2.2.2.2.2.2.2.2.2.2.2.2.2.2.2.2.2.2.2.2.2.2.2.2.1
@[irreducible] noncomputable def x := cX.2.2.2.2.2.2.2.2.2.2.2.2.2.2.2.2.2.2.2.2.2.2.2.2.2.1
@[irreducible] noncomputable def d := cX.2.2.2.2.2.2.2.2.2.2.2.2.2.2.2.2.2.2.2.2.2.2.2.2.2.2.1
@[irreducible] noncomputable def nw := cX.2.2.2.2.2.2.2.2.2.2.2.2.2.2.2.2.2.2.2.2.2.2.2.2.2.2.2.1
@[irreducible] noncomputable def ni := cX.2.2.2.2.2.2.2.2.2.2.2.2.2.2.2.2.2.2.2.2.2.2.2.2.2.2.2.2.1
@[irreducible] noncomputable def t1 := cX.2.2.2.2.2.2.2.2.2.2.2.2.2.2.2.2.2.2.2.2.2.2.2.2.2.2.2.2.2.1
@[irreducible] noncomputable def t2 := cX.2.2.2.2.2.2.2.2.2.2.2.2.2.2.2.2.2.2.2.2.2.2.2.2.2.2.2.2.2.2.1
@[irreducible] noncomputable def t3 := cX.2.2.2.2.2.2.2.2.2.2.2.2.2.2.2.2.2.2.2.2.2.2.2.2.2.2.2.2.2.2.2.1
@[irreducible] noncomputable def t4 := cX.2.2.2.2.2.2.2.2.2.2.2.2.2.2.2.2.2.2.2.2.2.2.2.2.2.2.2.2.2.2.2.2.1
@[irreducible] noncomputable def t5 := cX.2.2.2.2.2.2.2.2.2.2.2.2.2.2.2.2.2.2.2.2.2.2.2.2.2.2.2.2.2.2.2.2.2.1
@[irreducible] noncomputable def t6 := cX.2.2.2.2.2.2.2.2.2.2.2.2.2.2.2.2.2.2.2.2.2.2.2.2.2.2.2.2.2.2.2.2.2.2.1
@[irreducible] noncomputable def t7 := cX.2.2.2.2.2.2.2.2.2.2.2.2.2.2.2.2.2.2.2.2.2.2.2.2.2.2.2.2.2.2.2.2.2.2.2.1
@[irreducible] noncomputable def t8 := cX.2.2.2.2.2.2.2.2.2.2.2.2.2.2.2.2.2.2.2.2.2.2.2.2.2.2.2.2.2.2.2.2.2.2.2.2.1
@[irreducible] noncomputable def tn := cX.2.2.2.2.2.2.2.2.2.2.2.2.2.2.2.2.2.2.2.2.2.2.2.2.2.2.2.2.2.2.2.2.2.2.2.2.2.1
@[irreducible] noncomputable def tc := cX.2.2.2.2.2.2.2.2.2.2.2.2.2.2.2.2.2.2.2.2.2.2.2.2.2.2.2.2.2.2.2.2.2.2.2.2.2.2.1
@[irreducible] noncomputable def num := cX.2.2.2.2.2.2.2.2.2.2.2.2.2.2.2.2.2.2.2.2.2.2.2.2.2.2.2.2.2.2.2.2.2.2.2.2.2.2.2.1
@[irreducible] noncomputable def cnt := cX.2.2.2.2.2.2.2.2.2.2.2.2.2.2.2.2.2.2.2.2.2.2.2.2.2.2.2.2.2.2.2.2.2.2.2.2.2.2.2.2.1
@[irreducible] noncomputable def bl := cX.2.2.2.2.2.2.2.2.2.2.2.2.2.2.2.2.2.2.2.2.2.2.2.2.2.2.2.2.2.2.2.2.2.2.2.2.2.2.2.2.2.1
@[irreducible] noncomputable def wk := cX.2.2.2.2.2.2.2.2.2.2.2.2.2.2.2.2.2.2.2.2.2.2.2.2.2.2.2.2.2.2.2.2.2.2.2.2.2.2.2.2.2.2.1
@[irreducible] noncomputable def it := cX.2.2.2.2.2.2.2.2.2.2.2.2.2.2.2.2.2.2.2.2.2.2.2.2.2.2.2.2.2.2.2.2.2.2.2.2.2.2.2.2.2.2.2.1
@[irreducible] noncomputable def dest := cX.2.2.2.2.2.2.2.2.2.2.2.2.2.2.2.2.2.2.2.2.2.2.2.2.2.2.2.2.2.2.2.2.2.2.2.2.2.2.2.2.2.2.2.2
theorem core : StX w p loose mean mg mb dp un gd cn cs a ccd cl outer A₀ base h₀ L m s Q E R xc x d nw ni t1 t2 t3 t4 t5 t6 t7 t8 tn tc num cnt bl wk it dest := by
  unfold StX
  intro B F X T hk N hoff e1 e2 e3 hd hu ret
  revert X; k_fill; intro X
  refine wpAny_call ?_
  k_dflt (first | (refine' Mine.code_defR ?k1 ?k2 ?k3 ?k4 ?k5 ?kA ?kF ?kK ?k6 ?k7 ?k8 ?k9 ?kB ?kO ?_ ?c2 ?c3 ?c4 ?c5; (case kA => exact rfl); (case kF => exact rfl); (case kK => assumption); (case k1 => k_asm); (case k2 => k_asm); (case k3 => k_asm); (case k4 => k_asm); (case k5 => k_asm); (case k6 => k_is); (case k7 => k_is); (case k8 => ktr_room); (case k9 => exact BindsTo.of_eq rfl); (case c5 => decide); (case kB => exact locs rfl); (case kO => assumption); (case c2 => exact rfl); (case c3 => exact rfl); (case c4 => exact rfl); k_whole; intro g' L' h' HR' FG' F' N' B' X' T' l1; (try k_lt l1); (try dsimp only); (have lL := Mine.lt_frames FG' F'); (try k_fold)) | (refine' Mine.code_defRC ?k1 ?k2 ?k3 ?k4 ?k5 ?kA ?kF ?kK ?k6 ?k7 ?k8 ?k9 ?kB ?kD ?kO ?_ ?c2 ?c3 ?c4; (case kA => exact rfl); (case kF => exact rfl); (case kK => assumption); (case k1 => k_asm); (case k2 => k_asm); (case k3 => k_asm); (case k4 => k_asm); (case k5 => k_asm); (case k6 => k_is); (case k7 => k_is); (case k8 => ktr_room); (case k9 => exact BindsTo.of_eq rfl); (case kB => exact rfl); (case kD => decide +kernel); (case kO => assumption); (case c2 => exact rfl); (case c3 => exact rfl); (case c4 => exact rfl); k_whole; intro g' L' h' tk' cells' HR' FG' F' N' Y' B' X' T' l1; (try k_lt l1); k_cells Y'; (try simp only [List.cons_append, List.nil_append] at N'); (try dsimp only); (try k_lift B'); (have lL := Mine.lt_frames FG' F'); (try k_fold)) | fail "no entry")
  repeat' (first | (k_unfold; (try dsimp only)) | walk1 | (dsimp only; walk1) | fail "no step")
  rename News h₀ L _ R => NR
  rename News h₀ L _ (_ :: _) => NE
  exact ret _ _ _ _ (by assumption) (news_app (news_sub NE (by lcg_sub)) NR)
theorem all (x : XX) : StX (x.1) (x.2.1) (x.2.2.1) (x.2.2.2.1) (x.2.2.2.2.1) (x.2.2.2.2.2.1) (x.2.2.2.2.2.2.1) (x.2.2.2.2.2.2.2.1) (x.2.2.2.2.2.2.2.2.1) (x.2.2.2.2.2.2.2.2.2.1) (x.2.2.2.2.2.2.2.2.2.2.1) (x.2.2.2.2.2.2.2.2.2.2.2.1) (x.2.2.2.2.2.2.2.2.2.2.2.2.1) (x.2.2.2.2.2.2.2.2.2.2.2.2.2.1) (x.2.2.2.2.2.2.2.2.2.2.2.2.2.2.1) (x.2.2.2.2.2.2.2.2.2.2.2.2.2.2.2.1) (x.2.2.2.2.2.2.2.2.2.2.2.2.2.2.2.2.1) (x.2.2.2.2.2.2.2.2.2.2.2.2.2.2.2.2.2.1) (x.2.2.2.2.2.2.2.2.2.2.2.2.2.2.2.2.2.2.1) (x.2.2.2.2.2.2.2.2.2.2.2.2.2.2.2.2.2.2.2.1) (x.2.2.2.2.2.2.2.2.2.2.2.2.2.2.2.2.2.2.2.2.1) (x.2.2.2.2.2.2.2.2.2.2.2.2.2.2.2.2.2.2.2.2.2.1) (x.2.2.2.2.2.2.2.2.2.2.2.2.2.2.2.2.2.2.2.2.2.2.1) (x.2.2.2.2.2.2.2.2.2.2.2.2.2.2.2.2.2.2.2.2.2.2.2.1) (x.2.2.2.2.2.2.2.2.2.2.2.2.2.2.2.2.2.2.2.2.2.2.2.2.1) (x.2.2.2.2.2.2.2.2.2.2.2.2.2.2.2.2.2.2.2.2.2.2.2.2.2.1) (x.2.2.2.2.2.2.2.2.2.2.2.2.2.2.2.2.2.2.2.2.2.2.2.2.2.2.1) (x.2.2.2.2.2.2.2.2.2.2.2.2.2.2.2.2.2.2.2.2.2.2.2.2.2.2.2.1) (x.2.2.2.2.2.2.2.2.2.2.2.2.2.2.2.2.2.2.2.2.2.2.2.2.2.2.2.2.1) (x.2.2.2.2.2.2.2.2.2.2.2.2.2.2.2.2.2.2.2.2.2.2.2.2.2.2.2.2.2.1) (x.2.2.2.2.2.2.2.2.2.2.2.2.2.2.2.2.2.2.2.2.2.2.2.2.2.2.2.2.2.2.1) (x.2.2.2.2.2.2.2.2.2.2.2.2.2.2.2.2.2.2.2.2.2.2.2.2.2.2.2.2.2.2.2.1) (x.2.2.2.2.2.2.2.2.2.2.2.2.2.2.2.2.2.2.2.2.2.2.2.2.2.2.2.2.2.2.2.2.1) (x.2.2.2.2.2.2.2.2.2.2.2.2.2.2.2.2.2.2.2.2.2.2.2.2.2.2.2.2.2.2.2.2.2.1) (x.2.2.2.2.2.2.2.2.2.2.2.2.2.2.2.2.2.2.2.2.2.2.2.2.2.2.2.2.2.2.2.2.2.2.1) (x.2.2.2.2.2.2.2.2.2.2.2.2.2.2.2.2.2.2.2.2.2.2.2.2.2.2.2.2.2.2.2.2.2.2.2.1) (x.2.2.2.2.2.2.2.2.2.2.2.2.2.2.2.2.2.2.2.2.2.2.2.2.2.2.2.2.2.2.2.2.2.2.2.2.1) (x.2.2.2.2.2.2.2.2.2.2.2.2.2.2.2.2.2.2.2.2.2.2.2.2.2.2.2.2.2.2.2.2.2.2.2.2.2.1) (x.2.2.2.2.2.2.2.2.2.2.2.2.2.2.2.2.2.2.2.2.2.2.2.2.2.2.2.2.2.2.2.2.2.2.2.2.2.2.1) (x.2.2.2.2.2.2.2.2.2.2.2.2.2.2.2.2.2.2.2.2.2.2.2.2.2.2.2.2.2.2.2.2.2.2.2.2.2.2.2.1) (x.2.2.2.2.2.2.2.2.2.2.2.2.2.2.2.2.2.2.2.2.2.2.2.2.2.2.2.2.2.2.2.2.2.2.2.2.2.2.2.2.1) (x.2.2.2.2.2.2.2.2.2.2.2.2.2.2.2.2.2.2.2.2.2.2.2.2.2.2.2.2.2.2.2.2.2.2.2.2.2.2.2.2.2.1) (x.2.2.2.2.2.2.2.2.2.2.2.2.2.2.2.2.2.2.2.2.2.2.2.2.2.2.2.2.2.2.2.2.2.2.2.2.2.2.2.2.2.2.1) (x.2.2.2.2.2.2.2.2.2.2.2.2.2.2.2.2.2.2.2.2.2.2.2.2.2.2.2.2.2.2.2.2.2.2.2.2.2.2.2.2.2.2.2.1) (x.2.2.2.2.2.2.2.2.2.2.2.2.2.2.2.2.2.2.2.2.2.2.2.2.2.2.2.2.2.2.2.2.2.2.2.2.2.2.2.2.2.2.2.2) := eps_all (ne := neX) (P := fun x => StX (x.1) (x.2.1) (x.2.2.1) (x.2.2.2.1) (x.2.2.2.2.1) (x.2.2.2.2.2.1) (x.2.2.2.2.2.2.1) (x.2.2.2.2.2.2.2.1) (x.2.2.2.2.2.2.2.2.1) (x.2.2.2.2.2.2.2.2.2.1) (x.2.2.2.2.2.2.2.2.2.2.1) (x.2.2.2.2.2.2.2.2.2.2.2.1) (x.2.2.2.2.2.2.2.2.2.2.2.2.1) (x.2.2.2.2.2.2.2.2.2.2.2.2.2.1) (x.2.2.2.2.2.2.2.2.2.2.2.2.2.2.1) (x.2.2.2.2.2.2.2.2.2.2.2.2.2.2.2.1) (x.2.2.2.2.2.2.2.2.2.2.2.2.2.2.2.2.1) (x.2.2.2.2.2.2.2.2.2.2.2.2.2.2.2.2.2.1) (x.2.2.2.2.2.2.2.2.2.2.2.2.2.2.2.2.2.2.1) (x.2.2.2.2.2.2.2.2.2.2.2.2.2.2.2.2.2.2.2.1) (x.2.2.2.2.2.2.2.2.2.2.2.2.2.2.2.2.2.2.2.2.1) (x.2.2.2.2.2.2.2.2.2.2.2.2.2.2.2.2.2.2.2.2.2.1) (x.2.2.2.2.2.2.2.2.2.2.2.2.2.2.2.2.2.2.2.2.2.2.1) (x.2.2.2.2.2.2.2.2.2.2.2.2.2.2.2.2.2.2.2.2.2.2.2.1) (x.2.2.2.2.2.2.2.2.2.2.2.2.2.2.2.2.2.2.2.2.2.2.2.2.1) (x.2.2.2.2.2.2.2.2.2.2.2.2.2.2.2.2.2.2.2.2.2.2.2.2.2.1) (x.2.2.2.2.2.2.2.2.2.2.2.2.2.2.2.2.2.2.2.2.2.2.2.2.2.2.1) (x.2.2.2.2.2.2.2.2.2.2.2.2.2.2.2.2.2.2.2.2.2.2.2.2.2.2.2.1) (x.2.2.2.2.2.2.2.2.2.2.2.2.2.2.2.2.2.2.2.2.2.2.2.2.2.2.2.2.1) (x.2.2.2.2.2.2.2.2.2.2.2.2.2.2.2.2.2.2.2.2.2.2.2.2.2.2.2.2.2.1) (x.2.2.2.2.2.2.2.2.2.2.2.2.2.2.2.2.2.2.2.2.2.2.2.2.2.2.2.2.2.2.1) (x.2.2.2.2.2.2.2.2.2.2.2.2.2.2.2.2.2.2.2.2.2.2.2.2.2.2.2.2.2.2.2.1) (x.2.2.2.2.2.2.2.2.2.2.2.2.2.2.2.2.2.2.2.2.2.2.2.2.2.2.2.2.2.2.2.2.1) (x.2.2.2.2.2.2.2.2.2.2.2.2.2.2.2.2.2.2.2.2.2.2.2.2.2.2.2.2.2.2.2.2.2.1) (x.2.2.2.2.2.2.2.2.2.2.2.2.2.2.2.2.2.2.2.2.2.2.2.2.2.2.2.2.2.2.2.2.2.2.1) (x.2.2.2.2.2.2.2.2.2.2.2.2.2.2.2.2.2.2.2.2.2.2.2.2.2.2.2.2.2.2.2.2.2.2.2.1) (x.2.2.2.2.2.2.2.2.2.2.2.2.2.2.2.2.2.2.2.2.2.2.2.2.2.2.2.2.2.2.2.2.2.2.2.2.1) (x.2.2.2.2.2.2.2.2.2.2.2.2.2.2.2.2.2.2.2.2.2.2.2.2.2.2.2.2.2.2.2.2.2.2.2.2.2.1) (x.2.2.2.2.2.2.2.2.2.2.2.2.2.2.2.2.2.2.2.2.2.2.2.2.2.2.2.2.2.2.2.2.2.2.2.2.2.2.1) (x.2.2.2.2.2.2.2.2.2.2.2.2.2.2.2.2.2.2.2.2.2.2.2.2.2.2.2.2.2.2.2.2.2.2.2.2.2.2.2.1) (x.2.2.2.2.2.2.2.2.2.2.2.2.2.2.2.2.2.2.2.2.2.2.2.2.2.2.2.2.2.2.2.2.2.2.2.2.2.2.2.2.1) (x.2.2.2.2.2.2.2.2.2.2.2.2.2.2.2.2.2.2.2.2.2.2.2.2.2.2.2.2.2.2.2.2.2.2.2.2.2.2.2.2.2.1) (x.2.2.2.2.2.2.2.2.2.2.2.2.2.2.2.2.2.2.2.2.2.2.2.2.2.2.2.2.2.2.2.2.2.2.2.2.2.2.2.2.2.2.1) (x.2.2.2.2.2.2.2.2.2.2.2.2.2.2.2.2.2.2.2.2.2.2.2.2.2.2.2.2.2.2.2.2.2.2.2.2.2.2.2.2.2.2.2.1) (x.2.2.2.2.2.2.2.2.2.2.2.2.2.2.2.2.2.2.2.2.2.2.2.2.2.2.2.2.2.2.2.2.2.2.2.2.2.2.2.2.2.2.2.2)) (by with_unfolding_all exact core) x
end C_free_ex
theorem free_ex {w : World}
  {p : Program}
  {loose : List PySem.Str}
  {mean : ExcName → Option Value}
  {mg mb : PySem.Str → Option Value}
  {dp un : Nat}
  {gd : Option (List Code)}
  {cn : PySem.Str}
  {cs : Scope}
  {a : Addr}
  {ccd : Value}
  {cl : List (PySem.Str × Addr)}
  {outer : List Env}
  {A₀ : Around}
  {base h₀ : Heap}
  {L : Addr}
  {m : PySem.Str → Option Value}
  {s : Shared}
  {Q E : Value → Shared → Prop}
  {R : List (Addr × Obj)}
  {xc x d : Addr}
  {nw ni : Nat}
  {t1 t2 t3 t4 t5 t6 t7 t8 tn tc : Tok}
  {num cnt : Int}
  {bl : Value}
  {wk it : Addr}
  {dest : Bool}
  (B : Below A₀ base outer h₀)
  (F : Fr h₀ L s.heap m)
  (X : (hd.heap_1 w.params).In h₀)
  (T : Top p loose mean mg mb h₀)
  (hk : cs.kind = .function)
  (N : News h₀ L s.heap ([(x, instObj 78 d), (d, thingD w.params t1 t2 t3 t4 t5 t6 t7 t8 tn tc num cnt bl wk dest false it), (wk, listOf #[] nw), (it, listOf #[] ni)] ++ R))
  (hoff : AllOff R [(x, instObj 78 d), (d, thingD w.params t1 t2 t3 t4 t5 t6 t7 t8 tn tc num cnt bl wk dest false it), (wk, listOf #[] nw), (it, listOf #[] ni)])
  (e1 : @Ne Nat x d)
  (e2 : @Ne Nat wk d)
  (e3 : @Ne Nat it d)
  (hd : dp + 3 < recursionLimit)
  (hu : un + 24 < cLine)
  (ret : ∀ h' tk' wk' it', Fr h₀ L h' m → News h₀ L h' ([(x, instObj 78 d), (d, thingD w.params t1 t2 t3 t4 t5 t6 t7 t8 tn tc num cnt bl wk' dest true it'), (wk, listOf #[] nw), (it, listOf #[] ni)] ++ R) → Q .none { s with heap := h', toks := tk' }) : wpAny (model PySem.Challenge.rw_qz0092_01.row.prog w) (ktrTop dp un gd cn cs L a ccd cl outer) (call (.ref 356) [.ref xc, .ref x]) Q E s :=
  C_free_ex.all (w, p, loose, mean, mg, mb, dp, un, gd, cn, cs, a, ccd, cl, outer, A₀, base, h₀, L, m, s, Q, E, R, xc, x, d, nw, ni, t1, t2, t3, t4, t5, t6, t7, t8, tn, tc, num, cnt, bl, wk, it, dest) B F X T hk N hoff e1 e2 e3 hd hu ret
theorem free_spec {w : World} {p : Program} {loose : List PySem.Str} {mean : ExcName → Option Value} {mg mb : PySem.Str → Option Value}
  {dp un : Nat} {gd : Option (List Code)} {cn : PySem.Str} {cs : Scope} {a : Addr} {ccd : Value} {cl : List (PySem.Str × Addr)} {outer : List Env} {A₀ : Around} {base h₀ : Heap} {L : Addr} {m : PySem.Str → Option Value} {s : Shared}
  {Q E : Value → Shared → Prop} {news : List (Addr × Obj)} {g : Obj → List (Addr × Obj)}
  {xc x d : Addr} {nw ni : Nat} {t1 t2 t3 t4 t5 t6 t7 t8 tn tc : Tok} {num cnt : Int} {bl : Value} {wk it : Addr} {dest : Bool}
  (B : Below A₀ base outer h₀) (F : Fr h₀ L s.heap m) (X : (hd.heap_1 w.params).In h₀) (T : Top p loose mean mg mb h₀) (hk : cs.kind = .function)
  (N : News h₀ L s.heap news) (m1 : (x, instObj 78 d) ∈ news) (m2 : (wk, listOf #[] nw) ∈ news) (m3 : (it, listOf #[] ni) ∈ news)
  (U : UpdF d (thingD w.params t1 t2 t3 t4 t5 t6 t7 t8 tn tc num cnt bl wk dest false it) news g)
  (e1 : @Ne Nat x d) (e2 : @Ne Nat wk d) (e3 : @Ne Nat it d)
  (hd : dp + 3 < recursionLimit) (hu : un + 24 < cLine)
  (ret : ∀ h' tk' wk' it', Fr h₀ L h' m → News h₀ L h' (g (thingD w.params t1 t2 t3 t4 t5 t6 t7 t8 tn tc num cnt bl wk' dest true it')) → Q .none { s with heap := h', toks := tk' }) :
  wpAny (model PySem.Challenge.rw_qz0092_01.row.prog w) (ktrTop dp un gd cn cs L a ccd cl outer) (call (.ref 356) [.ref xc, .ref x]) Q E s := by
  obtain ⟨pre, post, rfl, hg, hpre, hpost⟩ := U.split
  obtain ⟨R, N', ho, hs, _⟩ := split_news (Ex := [(x, instObj 78 d), (d, thingD w.params t1 t2 t3 t4 t5 t6 t7 t8 tn tc num cnt bl wk dest false it), (wk, listOf #[] nw), (it, listOf #[] ni)]) N
    (by simp only [List.forall_mem_cons]; exact ⟨m1, List.mem_append_right _ (.head _), m2, m3, fun _ h => nomatch h⟩)
  refine free_ex B F X T hk N' ho e1 e2 e3 hd hu fun h' tk' wk' it' F' N2 => ret h' tk' wk' it' F' ?_
  rw [hg]
  have old : ∀ p ∈ pre ++ (d, thingD w.params t1 t2 t3 t4 t5 t6 t7 t8 tn tc num cnt bl wk dest false it) :: post, p.1 ≠ d → h'.get? p.1 = some p.2 ∧ p.1 ≠ L ∧ h₀.get? p.1 = none := fun p hp hne => by
    rcases List.mem_append.mp (hs p hp) with h | h
    · replace h := mem_ors h
      rcases h with rfl | rfl | rfl | rfl
      · exact N2 _ (.head _)
      · exact absurd rfl hne
      · exact N2 _ (.tail _ (.tail _ (.head _)))
      · exact N2 _ (.tail _ (.tail _ (.tail _ (.head _))))
    · exact N2 p (List.mem_append_right _ h)
  intro p hp
  rcases List.mem_append.mp hp with h | h
  · exact old p (List.mem_append_left _ h) (hpre p h)
  · rcases List.mem_cons.mp h with rfl | h
    · exact N2 _ (.tail _ (.head _))
    · exact old p (List.mem_append_right _ (.tail _ h)) (hpost p h)
end Mine
end
theorem Mine.rs_KeepR : True := by
  w_top off
  trivial
open PySem PySem.W PyProof.Rows PySem.Calls
namespace Mine
/-- all that stood stands, but at the addresses as -/
noncomputable def Keep (as : List Addr) (h h' : Heap) : Prop := ∀ b o, b ∉ as → h.get? b = some o → h'.get? b = some o
theorem Keep.refl {as : List Addr} {h : Heap} : Keep as h h := fun _ _ _ e => e
theorem Keep.trans {as : List Addr} {h h' h'' : Heap} (x : Keep as h h') (y : Keep as h' h'') : Keep as h h'' := fun b o n e => y b o n (x b o n e)
theorem Keep.mono {as bs : List Addr} {h h' : Heap} (x : Keep as h h') (hs : ∀ b ∈ as, b ∈ bs) : Keep bs h h' := fun b o n e => x b o (fun q => n (hs b q)) e
theorem Keep.news {as : List Addr} {h₀ h h' : Heap} {L : Addr} {R : List (Addr × Obj)} (x : Keep as h h') (N : News h₀ L h R) (off : ∀ p ∈ R, p.1 ∉ as) : News h₀ L h' R := fun p hp => ⟨x _ _ (off p hp) (N p hp).1, (N p hp).2⟩
section
variable {prog : Program} {w : World} {A A₀ : Around} {s : Shared} {K : Frag} {L : Addr} {h₀ base : Heap} {m mg mb : PySem.Str → Option Value} {Ex : List (Addr × Obj)} {p : Program} {loose : List PySem.Str} {mean : ExcName → Option Value}
  {env : Env} {outer : List Env} {R₀ : Result → Shared → Prop} {name qual : PySem.Str} {params : Arguments} {body : List Stmt} {scope : Scope} {cl : List (PySem.Str × Addr)} {dV kV doc pm cdv ct : Value} {an : Option Addr} {fo : Obj} {f : Addr} {args : Args} {binds : List (PySem.Str × Value)}
theorem leave_keep {g : Heap} {v : Value} {s' : Shared} (hg : ∀ b o, s.heap.get? b = some o → b ∉ Ex.map (·.1) → g.get? b = some o)
    (x : LeaveK h₀ L m g (fun r s'' => Keep (Ex.map (·.1)) s.heap s''.heap → R₀ r s'') v s') : LeaveK h₀ L m g R₀ v s' := by
  obtain ⟨L₂, m', news', F', N', k⟩ := x
  exact ⟨L₂, m', news', F', N', fun a b => k a b fun c o hc e => F'.keep c o (hg c o e hc)⟩
theorem callK_plain (B : Below A₀ base outer h₀) (F : Fr h₀ L s.heap m) (N : News h₀ L s.heap Ex) (hlim : h₀.NoLimit) (hA : A.frames = some (env :: outer)) (hf : env.frame = some L) (hke : env.scope.kind = .function)
    (ho : s.heap.get? f = some fo) (hd : fo.data = .func (fnX name qual params body scope cl dV kV doc pm an cdv ct)) (hcd : s.heap.CodeRec cdv qual) (hroom : A.depth < recursionLimit)
    (hbind : BindsTo s (fnX name qual params body scope cl dV kV doc pm an cdv ct) args binds) (hloc : ∀ y ∈ binds, scope.names.lookup y.1 = some .local)
    (h : ∀ g L' h₁, (∀ b o, s.heap.get? b = some o → b ∉ Ex.map (·.1) → g.get? b = some o) → Fr h₀ L g m → Fr g L' h₁ (fun y => binds.reverse.lookup y) → News g L' h₁ Ex → Below A base (env :: outer) g → h₀.StaysIn g → (∀ p ∈ Ex, p.1 < L') →
      wpAny (model prog w) (A.deeper (envX qual scope L' f cdv cl)) (execs body (envX qual scope L' f cdv cl))
        (fun fl s' => LeaveK h₀ L m g (fun r s'' => Keep (Ex.map (·.1)) s.heap s''.heap → R₀ r s'') (match fl with | .ret v => v | _ => .none) s')
        (fun e s' => wpAny (model prog w) (A.deeper (envX qual scope L' f cdv cl)) (leaving (envX qual scope L' f cdv cl) e) (fun _ s'' => R₀ (.error e) s'') (fun e' s'' => R₀ (.error e') s'') s')
        { s with heap := h₁, toks := s.toks + binds.length })
    (hcell : ∀ x ∈ scope.names, x.2 ≠ .cell) (hco : scope.isCoroutine = false := by rfl) (hgen : scope.isGenerator = false := by rfl) (hk : scope.kind = .function := by rfl) : codeAny (model prog w) A (.call (.ref f) args) R₀ s := by
  obtain ⟨FG, BG, st, lv⟩ := groundX (R := R₀) B F N hA hf hke
  have hg : ∀ b o, s.heap.get? b = some o → b ∉ Ex.map (·.1) → (hideAll s.heap (Ex.map (·.1))).get? b = some o := fun b o e n => hideAll_get _ e n
  refine codeAny_call_def (fd := fnX name qual params body scope cl dV kV doc pm an cdv ct) (body := body) (binds := binds) hroom ho hd (hlim.keeps F.keep) hcd rfl hbind hcell hloc (fun h₁ hns hk₁ => ?_) hco hgen hk
  exact wpAny_mono (h _ s.heap.objs.size h₁ hg FG ⟨hns, fun b o e => hk₁ b o (of_hideAll _ e), Nat.le_of_eq (hideAll_size _ _)⟩
    (fun p hp => ⟨hk₁ _ _ (N p hp).1, Nat.ne_of_lt (Heap.lt_size (N p hp).1), hideAll_none _ (List.mem_map_of_mem hp)⟩) BG st (fun p hp => Heap.lt_size (N p hp).1)) (fun fl s' hl => lv _ _ (leave_keep hg hl)) fun _ _ y => y
theorem callK_cells (B : Below A₀ base outer h₀) (F : Fr h₀ L s.heap m) (N : News h₀ L s.heap Ex) (hlim : h₀.NoLimit) (hA : A.frames = some (env :: outer)) (hf : env.frame = some L) (hke : env.scope.kind = .function)
    (ho : s.heap.get? f = some fo) (hd : fo.data = .func (fnX name qual params body scope [] dV kV doc pm an cdv ct)) (hcd : s.heap.CodeRec cdv qual) (hroom : A.depth < recursionLimit)
    (hbind : BindsTo s (fnX name qual params body scope [] dV kV doc pm an cdv ct) args binds)
    (hkind : ∀ n, ∀ x ∈ binds, scope.names.lookup x.1 = some .local ∨ (scope.names.lookup x.1 = some .cell ∧ ((cellsFrom n scope.names []).lookup x.1).isSome = true))
    (hnd : ((cellsFrom 0 scope.names []).map (·.1)).Nodup)
    (h : ∀ g L' h₁ tk cells, (∀ b o, s.heap.get? b = some o → b ∉ Ex.map (·.1) → g.get? b = some o) → Fr h₀ L g m → Fr g L' h₁ (bindL (envOfC qual scope L' f cdv).kindOf binds fun _ => none) → News g L' h₁ (cells ++ Ex) →
      CellsAre (bindC (envOfC qual scope L' f cdv).kindOf binds fun _ => none) (cellsFrom (L' + 1) scope.names []) cells → Below A base (env :: outer) g → h₀.StaysIn g → (∀ p ∈ Ex, p.1 < L') →
      wpAny (model prog w) (A.deeper (envOfC qual scope L' f cdv)) (execs body (envOfC qual scope L' f cdv))
        (fun fl s' => LeaveK h₀ L m g (fun r s'' => Keep (Ex.map (·.1)) s.heap s''.heap → R₀ r s'') (match fl with | .ret v => v | _ => .none) s')
        (fun e s' => wpAny (model prog w) (A.deeper (envOfC qual scope L' f cdv)) (leaving (envOfC qual scope L' f cdv) e) (fun _ s'' => R₀ (.error e) s'') (fun e' s'' => R₀ (.error e') s'') s')
        { s with heap := h₁, toks := tk })
    (hco : scope.isCoroutine = false := by rfl) (hgen : scope.isGenerator = false := by rfl) (hk : scope.kind = .function := by rfl) : codeAny (model prog w) A (.call (.ref f) args) R₀ s := by
  obtain ⟨FG, BG, st, lv⟩ := groundX (R := R₀) B F N hA hf hke
  have hg : ∀ b o, s.heap.get? b = some o → b ∉ Ex.map (·.1) → (hideAll s.heap (Ex.map (·.1))).get? b = some o := fun b o e n => hideAll_get _ e n
  refine codeAny_call_function hroom ho hd hco hgen rfl hcd (hbind _ _ _ _ ?_)
  refine wpAny_newFunctionEnv_cells hk (hkind _) fun env' he s' x => ?_
  subst he
  refine ⟨(hlim.keeps F.keep).keeps x.toInCall.keep, codeAny_func ?_⟩
  obtain ⟨h₁, tk, rfl, _⟩ := x.done
  have hk₁ := x.toInCall.keep
  obtain ⟨cells, NC, Y⟩ := Cl.news (h₀ := s.heap) (Nat.le_refl _) fun n c hm => ⟨x.cell n c (lookup_of_mem_nodup (cellsFrom_names scope.names 0 (s.heap.objs.size + 1) [] [] rfl ▸ hnd) hm), x.above n c hm⟩
  refine wpAny_mono (h _ s.heap.objs.size h₁ tk cells hg FG ⟨x.toInCall.ns, fun b o e => hk₁ b o (of_hideAll _ e), Nat.le_of_eq (hideAll_size _ _)⟩ (fun p hp => ?_) Y BG st (fun p hp => Heap.lt_size (N p hp).1)) (fun fl s' hl => lv _ _ (leave_keep hg hl)) fun _ _ y => y
  rcases List.mem_append.mp hp with hp | hp
  · refine ⟨(NC p hp).1, (NC p hp).2.1, ?_⟩
    cases q : (hideAll s.heap (Ex.map (·.1))).get? p.1 with
    | none => rfl
    | some o => have := of_hideAll _ q; rw [(NC p hp).2.2] at this; cases this
  · exact ⟨hk₁ _ _ (N p hp).1, Nat.ne_of_lt (Heap.lt_size (N p hp).1), hideAll_none _ (List.mem_map_of_mem hp)⟩
/-- a top def, entered with the part Ex of the ledger; all else lies in the walk's base -/
theorem code_defK {od oc} {osl : Array (Option Value)} (B : Below A₀ base outer h₀) (F : Fr h₀ L s.heap m) (X₀ : K.In h₀) (N : News h₀ L s.heap Ex) (T : Top p loose mean mg mb h₀) (hA : A.frames = some (env :: outer)) (hf : env.frame = some L) (hke : env.scope.kind = .function)
    (ho : K.lookup f = some ⟨oc, od, .func (fnOf name qual params body scope dV kV doc pm an cdv ct), osl⟩) (hcd : codeIn K cdv qual = true) (hroom : A.depth < recursionLimit)
    (hbind : BindsTo s (fnOf name qual params body scope dV kV doc pm an cdv ct) args binds) (hloc : ∀ y ∈ binds, scope.names.lookup y.1 = some .local)
    (h : ∀ g L' h₁, (∀ b o, s.heap.get? b = some o → b ∉ Ex.map (·.1) → g.get? b = some o) → Fr h₀ L g m → Fr g L' h₁ (fun y => binds.reverse.lookup y) → News g L' h₁ Ex → Below A base (env :: outer) g → K.In g → Top p loose mean mg mb g → (∀ p ∈ Ex, p.1 < L') →
      wpAny (model prog w) (A.deeper (envOf qual scope L' f cdv)) (execs body (envOf qual scope L' f cdv))
        (fun fl s' => LeaveK h₀ L m g (fun r s'' => Keep (Ex.map (·.1)) s.heap s''.heap → R₀ r s'') (match fl with | .ret v => v | _ => .none) s')
        (fun e s' => wpAny (model prog w) (A.deeper (envOf qual scope L' f cdv)) (leaving (envOf qual scope L' f cdv) e) (fun _ s'' => R₀ (.error e) s'') (fun e' s'' => R₀ (.error e') s'') s')
        { s with heap := h₁, toks := s.toks + binds.length })
    (hco : scope.isCoroutine = false) (hgen : scope.isGenerator = false) (hk : scope.kind = .function)
    (hcell : ∀ x ∈ scope.names, x.2 ≠ .cell) : codeAny (model prog w) A (.call (.ref f) args) R₀ s :=
  callK_plain (cl := []) B F N T.nolimit hA hf hke ((X₀.keeps F.keep) _ _ ho) rfl (codeRec_of (X₀.keeps F.keep) hcd) hroom hbind hloc (fun g L' h₁ kg FG F' N' B' st l => h g L' h₁ kg FG F' N' B' (X₀.keeps st) (T.keeps st) l) hcell hco hgen hk
theorem code_defKC {od oc} {osl : Array (Option Value)} (B : Below A₀ base outer h₀) (F : Fr h₀ L s.heap m) (X₀ : K.In h₀) (N : News h₀ L s.heap Ex) (T : Top p loose mean mg mb h₀) (hA : A.frames = some (env :: outer)) (hf : env.frame = some L) (hke : env.scope.kind = .function)
    (ho : K.lookup f = some ⟨oc, od, .func (fnOf name qual params body scope dV kV doc pm an cdv ct), osl⟩) (hcd : codeIn K cdv qual = true) (hroom : A.depth < recursionLimit)
    (hbind : BindsTo s (fnOf name qual params body scope dV kV doc pm an cdv ct) args binds) (hkind : (binds.all fun y => scope.names.lookup y.1 == some .local || scope.names.lookup y.1 == some .cell) = true)
    (hnd : ((cellsFrom 0 scope.names []).map (·.1)).Nodup)
    (h : ∀ g L' h₁ tk cells, (∀ b o, s.heap.get? b = some o → b ∉ Ex.map (·.1) → g.get? b = some o) → Fr h₀ L g m → Fr g L' h₁ (bindL (envOfC qual scope L' f cdv).kindOf binds fun _ => none) → News g L' h₁ (cells ++ Ex) →
      CellsAre (bindC (envOfC qual scope L' f cdv).kindOf binds fun _ => none) (cellsFrom (L' + 1) scope.names []) cells → Below A base (env :: outer) g → K.In g → Top p loose mean mg mb g → (∀ p ∈ Ex, p.1 < L') →
      wpAny (model prog w) (A.deeper (envOfC qual scope L' f cdv)) (execs body (envOfC qual scope L' f cdv))
        (fun fl s' => LeaveK h₀ L m g (fun r s'' => Keep (Ex.map (·.1)) s.heap s''.heap → R₀ r s'') (match fl with | .ret v => v | _ => .none) s')
        (fun e s' => wpAny (model prog w) (A.deeper (envOfC qual scope L' f cdv)) (leaving (envOfC qual scope L' f cdv) e) (fun _ s'' => R₀ (.error e) s'') (fun e' s'' => R₀ (.error e') s'') s')
        { s with heap := h₁, toks := tk })
    (hco : scope.isCoroutine = false) (hgen : scope.isGenerator = false) (hk : scope.kind = .function) : codeAny (model prog w) A (.call (.ref f) args) R₀ s :=
  callK_cells B F N T.nolimit hA hf hke ((X₀.keeps F.keep) _ _ ho) rfl (codeRec_of (X₀.keeps F.keep) hcd) hroom hbind (kindsX hkind) hnd (fun g L' h₁ tk cells kg FG F' N' Y B' st l => h g L' h₁ tk cells kg FG F' N' Y B' (X₀.keeps st) (T.keeps st) l) hco hgen hk
end
end Mine
section
open PySem PySem.W PyProof.Rows PySem.Calls LSm
namespace Mine
noncomputable abbrev Pr : Program := PySem.Challenge.rw_qz0092_01.row.prog
/-- the law's own tables: where they lie, what of them stays -/
structure OwnA where
  od : Addr
  hl : Addr
  dl : Addr
  fl : Addr
  bll : Addr
  pl : Addr
  gl : Addr
  oo : Obj
  vb : List Value
  vp : List Value
  c1 : Nat
  c2 : Nat
  c3 : Nat
  c4 : Nat
  c5 : Nat
noncomputable abbrev OwnA.adr (o : OwnA) : List Addr := [o.od, o.hl, o.dl, o.fl, o.bll, o.pl, o.gl]
noncomputable abbrev OwnA.ex (o : OwnA) (vh vd vf vg : List Value) (c6 : Nat) : List (Addr × Obj) :=
  [(o.od, o.oo), (o.hl, listOf vh.toArray o.c1), (o.dl, listOf vd.toArray o.c2), (o.fl, listOf vf.toArray o.c3), (o.bll, listOf o.vb.toArray o.c4), (o.pl, listOf o.vp.toArray o.c5), (o.gl, listOf vg.toArray c6)]
structure OwnOk (w : World) (o : OwnA) (plan : List (List Int)) (bl : List Bool) (n : Nat) : Prop where
  dict : Obj.IsDictOf (PySem.strKind Pr w) o.oo [(PySem.Str.ofString "held", .ref o.hl), (PySem.Str.ofString "done", .ref o.dl), (PySem.Str.ofString "freed", .ref o.fl), (PySem.Str.ofString "blessed", .ref o.bll), (PySem.Str.ofString "plan", .ref o.pl), (PySem.Str.ofString "log", .ref o.gl)]
  nd : o.adr.Nodup
  bools : BoolsAre o.vb bl
  blen : bl.length = n
  plan : InPlan plan n
  small : n ≤ 5
/-- the plan's lists, read in a heap -/
noncomputable def PlanAt (h : Heap) (o : OwnA) (plan : List (List Int)) (n : Nat) : Prop :=
  ∀ k : Int, 0 ≤ k → k < (n : Int) → ∃ q pv c, o.vp[k.toNat]? = some (.ref q) ∧ h.get? q = some (listOf pv.toArray c) ∧ IntsAre pv (plan.getD k.toNat []) ∧ q ∉ o.adr
theorem PlanAt.keep {h h' : Heap} {o : OwnA} {plan : List (List Int)} {n : Nat} (x : PlanAt h o plan n) (k : ∀ b o', b ∉ o.adr → h.get? b = some o' → h'.get? b = some o') : PlanAt h' o plan n := fun i h0 h1 =>
  let ⟨q, pv, c, a, b, d, e⟩ := x i h0 h1; ⟨q, pv, c, a, k _ _ e b, d, e⟩
/-- a call of one of the law's own defs with (own, place): what it asks, what it does -/
noncomputable def OwnSpec (w : World) (p : Program) (loose : List PySem.Str) (mean : ExcName → Option Value) (mg mb : PySem.Str → Option Value) (o : OwnA) (plan : List (List Int)) (bl : List Bool) (n : Nat) (fa : Addr) (dd : Nat) (pre : S → Int → Prop) (post : S → Int → S) : Prop :=
  ∀ (dp un : Nat) (gd : Option (List Code)) (cn : PySem.Str) (cs : Scope) (a : Addr) (ccd : Value) (cl : List (PySem.Str × Addr)) (outer : List Env) (A₀ : Around) (base h₀ : Heap) (L : Addr) (m : PySem.Str → Option Value) (s : Shared) (Q E : Value → Shared → Prop)
    (vh vd vf vg : List Value) (c6 : Nat) (S : S) (k : Int) (tk : Tok),
    Below A₀ base outer h₀ → Fr h₀ L s.heap m → (hd.heap_1 w.params).In h₀ → Top p loose mean mg mb h₀ → cs.kind = .function →
    News h₀ L s.heap (o.ex vh vd vf vg c6) → BoolsAre vh S.held → BoolsAre vd S.done → BoolsAre vf S.freed → IntsAre vg S.log → S.Len n → PlanAt s.heap o plan n → 0 ≤ k → k < (n : Int) → pre S k →
    dp + dd < recursionLimit → un + 8 * dd < cLine →
    (∀ h' tk' vh' vd' vf' vg' c6', Fr h₀ L h' m → News h₀ L h' (o.ex vh' vd' vf' vg' c6') → BoolsAre vh' (post S k).held → BoolsAre vd' (post S k).done → BoolsAre vf' (post S k).freed → IntsAre vg' (post S k).log → Keep o.adr s.heap h' → Q .none { s with heap := h', toks := tk' }) →
    wpAny (model Pr w) (ktrTop dp un gd cn cs L a ccd cl outer) (call (.ref fa) [.ref o.od, .int k tk]) Q E s
theorem ref_sub {prog : Program} {w : World} {A : Around} {E : Value → Shared → Prop} {s : Shared} {h₀ : Heap} {L D : Addr} {news : List (Addr × Obj)} {vs : List Value} {n : Nat} {k : Int} {u : Tok} {v : Value} {value slice : PySem.Expr} {Q : Value → Shared → Prop}
    (N : News h₀ L s.heap news) (hm : (D, listOf vs.toArray n) ∈ news) (hx : vs[k.toNat]? = some v) (h0 : 0 ≤ k) (hfit : k < 2 ^ 63) (h : Q v s)
    (hs : subscripted slice false (.ref D) (.int k u) = operate [.ref D, .int k u] (getItem (.ref D) (.int k u)) := by with_unfolding_all rfl) :
    wpAny (model prog w) A (subscriptTail value slice (.ref D) (.int k u)) Q E s := by
  have hl : s.heap.IsList D vs.toArray := ⟨_, (N _ hm).1, rfl, n, rfl⟩
  exact tail_any hl.typeIs slot_list_getitem.lookup (wpAny_getItem_list hl h0 hfit (by simpa using hx) h) hs
end Mine
end
theorem Mine.rs_Loop : True := by
  w_top off
  trivial
section
open PySem PySem.W PyProof.Rows PySem.Calls LSm PyProof.V PySem.Spec
namespace Mine
/-- a turn's end: the loop's name aside, the frame is as it was; the ledger is nx' and the loop's own part -/
noncomputable def TurnM (h₀ : Heap) (L : Addr) (m₀ : PySem.Str → Option Value) (x : PySem.Str) (P : List (Addr × Obj) → Prop) (own : List (Addr × Obj)) (adr : List Addr) (s₁ : Shared) (Q : Flow → Shared → Prop) (f : Flow) (s₂ : Shared) : Prop :=
  match f with
  | .ret v => Q (.ret v) s₂
  | .brk => Q .next s₂
  | _ => ∃ h' tk v nx, s₂ = { s₁ with heap := h', toks := tk } ∧ Fr h₀ L h' (fun y => if y = x then v else m₀ y) ∧ News h₀ L h' (nx ++ own) ∧ nx.map (·.1) = adr ∧ P nx
section
variable {prog : Program} {w : World} {A : Around} {E : Value → Shared → Prop} {s : Shared} {env : Env} {h₀ : Heap} {x : PySem.Str} {body : List Stmt} {Q : Flow → Shared → Prop}
theorem map_if {m₁ m₀ : PySem.Str → Option Value} {v : Option Value} (hm : ∀ z, z ≠ x → m₁ z = m₀ z) : (fun z => if z = x then v else m₁ z) = fun z => if z = x then v else m₀ z := by
  funext z
  by_cases h : z = x
  · simp [h]
  · simp only [if_neg h]; exact hm z h
theorem turnM_inv {m₀ : PySem.Str → Option Value} {P : List (Addr × Obj) → Prop} {own : List (Addr × Obj)} {adr : List Addr} {s₁ s₂ : Shared} {f : Flow} (h : TurnM h₀ env.locals m₀ x P own adr s₁ Q f s₂) :
    InvPostN h₀ env.locals (fun m₁ nx => (∀ z, z ≠ x → m₁ z = m₀ z) ∧ P nx) own adr s₁ Q f s₂ := by
  have fin : (∃ h' tk v nx, s₂ = { s₁ with heap := h', toks := tk } ∧ Fr h₀ env.locals h' (fun y => if y = x then v else m₀ y) ∧ News h₀ env.locals h' (nx ++ own) ∧ nx.map (·.1) = adr ∧ P nx) →
      InvEndN h₀ env.locals (fun m₁ nx => (∀ z, z ≠ x → m₁ z = m₀ z) ∧ P nx) own adr s₁ s₂ := fun ⟨h', tk, v, nx, e, F, N, ha, hp⟩ =>
    ⟨h', tk, _, nx ++ own, nx, e, F, N, fun p hp => List.mem_append_left _ hp, fun p hp => List.mem_append_right _ hp, ha, (fun z hz => by simp only [if_neg hz]), hp⟩
  cases f with
  | ret v => exact h
  | brk => exact h
  | next => exact fin h
  | cont => exact fin h
theorem iter_listM {σ : Type} {l : Addr} {vs : List Value} {ns : List Int} {m₀ : PySem.Str → Option Value} {news : List (Addr × Obj)}
    (R : σ → List (Addr × Obj) → Prop) (g : σ → Int → σ) (c₀ : σ)
    (hh : A.handled = none) (hl : h₀.IsList l vs.toArray) (hi : IntsAre vs ns) (F : Fr h₀ env.locals s.heap m₀) (N : News h₀ env.locals s.heap news) (hR : R c₀ news)
    (turn : ∀ k t a nx h tk own, k ∈ ns → OwnOff own (news.map (·.1)) → R a nx → Fr h₀ env.locals h (fun y => if y = x then some (.int k t) else m₀ y) → News h₀ env.locals h (nx ++ own) →
      wpAny (model prog w) A (execs body env) (TurnM h₀ env.locals m₀ x (R (g a k)) own (news.map (·.1)) { s with heap := h, toks := tk } Q) E { s with heap := h, toks := tk })
    (done : ∀ m₁ nx h tk, R (ns.foldl g c₀) nx → (∀ z, z ≠ x → m₁ z = m₀ z) → Fr h₀ env.locals h m₁ → News h₀ env.locals h nx → Q .next { s with heap := h, toks := tk }) :
    wpAny (model prog w) A (pyIter (.ref l)) (fun it s₂ => LoopAtV prog w A h₀ env x body Q E it s₂) E s :=
  iter_listS (R := fun a m₁ nx => (∀ z, z ≠ x → m₁ z = m₀ z) ∧ R a nx) g c₀ hh hl hi F N ⟨fun _ _ => rfl, hR⟩
    (fun k t a m₁ nx h tk own hk ho hr F' N' => wpAny_mono (turn k t a nx h tk own hk ho hr.2 (map_if hr.1 ▸ F') N') (fun _ _ p => turnM_inv p) fun _ _ e => e)
    fun m₁ nx h tk hr F' N' => done m₁ nx h tk hr.2 hr.1 F' N'
end
end Mine
end
theorem Mine.rs_OwnEnds : True := by
  w_top off
  trivial
section
open PySem PySem.W PyProof.Rows PySem.Calls LSm
namespace Mine
theorem own_ends {w : World} {p : Program} {loose : List PySem.Str} {mean : ExcName → Option Value} {mg mb : PySem.Str → Option Value} {o : OwnA} {plan : List (List Int)} {bl : List Bool} {n : Nat} (O : OwnOk w o plan bl n) {f d : Nat}
    (IH : OwnSpec w p loose mean mg mb o plan bl n 413 d (fun S _ => hc S.held ≤ f) (letA plan bl f)) :
    OwnSpec w p loose mean mg mb o plan bl n 420 (d + 1) (fun S k => hc S.held ≤ f ∧ S.done.getD k.toNat false = false) (endsA plan bl f) := by
  unfold OwnSpec Pr
  intro dp un gd cn cs a ccd cl outer A₀ base h₀ L m s Q E vh vd vf vg c6 S k tk B F X T hk N hvh hvd hvf hvg hS hP h0 h1 hpre hd hu ret
  revert X; k_fill; intro X
  obtain ⟨q, pv, c, hq, hqo, hpv, hqa⟩ := hP k h0 h1
  obtain ⟨od, hl, dl, fl, bll, pl, gl, oo, vb, vp, c1, c2, c3, c4, c5⟩ := o
  have hdict := O.dict
  have hnd := O.nd
  have hn5 := O.small
  dsimp only [OwnA.ex, OwnA.adr] at *
  simp only [List.nodup_cons, List.mem_cons, List.not_mem_nil, or_false, not_or, not_false_eq_true, List.nodup_nil, and_true] at hnd
  obtain ⟨⟨n1, n2, n3, n4, n5, n6⟩, ⟨n7, n8, n9, n10, n11⟩, ⟨n12, n13, n14, n15⟩, ⟨n16, n17, n18⟩, ⟨n19, n20⟩, n21⟩ := hnd
  have hl1 := hS.held
  have hl2 := hS.done
  have hl3 := hS.freed
  have hl4 := hS.log
  have hl5 := IntsAre.length hvg
  have hl6 := hc_le S.done
  refine wpAny_call ?_
  k_dflt (first | (refine' Mine.code_defK ?k1 ?k2 ?k3 ?k4 ?k5 ?kA ?kF ?kK ?k6 ?k7 ?k8 ?k9 ?kB ?_ ?c2 ?c3 ?c4 ?c5; (case kA => exact rfl); (case kF => exact rfl); (case kK => assumption); (case k1 => k_asm); (case k2 => k_asm); (case k3 => k_asm); (case k4 => k_asm); (case k5 => k_asm); (case k6 => k_is); (case k7 => k_is); (case k8 => ktr_room); (case k9 => exact BindsTo.of_eq rfl); (case c5 => decide); (case kB => exact locs rfl); (case c2 => exact rfl); (case c3 => exact rfl); (case c4 => exact rfl); k_whole; intro g' L' h' kg' FG' F' N' B' X' T' l1; (try k_lt l1); (try dsimp only); (have lL := Mine.lt_frames FG' F'); (try k_fold)) | fail "no entry")
  repeat' ((fail_if_success (with_reducible show wpAny _ _ (pyIter _) _ _ _)); first | (k_unfold; (try dsimp only)) | (k_here; (rename Fr _ _ _ _ => lF'); (with_unfolding_all refine' For_invVF lF' ?y0k1 ?y0k2 ?_; (case y0k1 => exact rfl); (case y0k2 => exact rfl); k_whole)) | (k_here; (with_reducible show wpAny _ _ (subscriptTail _ _ (Value.ref _) (Value.int _ _)) _ _ _); k_dflt (refine' Mine.ref_sub ?y1N ?y1m ?y1x ?y1a ?y1b ?_ ?y1h; (case y1N => k_asm); (case y1m => k_mem); (case y1x => with_reducible assumption); (case y1a => omega); (case y1b => omega); (case y1h => with_unfolding_all rfl))) | (k_here; (with_reducible show wpAny _ _ (call (Value.builtin _) [Value.ref _, _]) _ _ _); k_dflt (refine' append_K ?y2k1 ?y2k2 ?y2k3 ?_ ?y2z; (case y2k1 => k_asm); (case y2k2 => k_asm); (case y2k3 => k_upd); (case y2z => ((simp only [List.size_toArray]); (rw [PySem.sizeLine_eq]); unfold Mine.hc at *; omega)); k_whole); intro h' F' N'; (try k_sweep)) | walk1 | (dsimp only; walk1) | fail "no step")
  rename News _ _ _ _ => N9
  rw [List.push_toArray] at N9
  rename Fr _ _ _ _ => F9
  rename ∀ b o, Heap.get? _ b = some o → _ ∉ _ → Heap.get? _ b = some o => kg
  rename BoolsAre (vd.set _ _) _ => hb9
  have hlq := (⟨_, kg _ _ hqo hqa, rfl, c, rfl⟩ : Heap.IsList _ q pv.toArray)
  refine iter_listM (R := fun S' nx => ∃ vh vd vf vg c6, nx = [(od, oo), (hl, listOf vh.toArray c1), (dl, listOf vd.toArray c2), (fl, listOf vf.toArray c3), (bll, listOf vb.toArray c4), (pl, listOf vp.toArray c5), (gl, listOf vg.toArray c6)] ∧
    BoolsAre vh S'.held ∧ BoolsAre vd S'.done ∧ BoolsAre vf S'.freed ∧ IntsAre vg S'.log ∧ S'.Len n ∧ hc S'.held ≤ f) (letA plan bl f) (S.mark k) (by rfl) hlq hpv F9 N9
    ⟨_, _, _, _, _, rfl, hvh, hb9, hvf, IntsAre.append hvg (.cons k _ .nil), hS.mark hpre.2 h0 h1, hpre.1⟩ ?_ ?_
  · rintro k' t' S' nx h' tk' own hk' ho ⟨vh', vd', vf', vg', c6', rfl, b1, b2, b3, b4, b5, b6⟩ F' N'
    clear N9 F9 F N
    k_fold
    repeat' ((fail_if_success (with_reducible show wpAny _ _ (call (Value.ref 413) _) _ _ _)); first | (k_unfold; (try dsimp only)) | (k_here; (rename Fr _ _ _ _ => lF'); (with_unfolding_all refine' For_invVF lF' ?y0k1 ?y0k2 ?_; (case y0k1 => exact rfl); (case y0k2 => exact rfl); k_whole)) | (k_here; (with_reducible show wpAny _ _ (subscriptTail _ _ (Value.ref _) (Value.int _ _)) _ _ _); k_dflt (refine' Mine.ref_sub ?y1N ?y1m ?y1x ?y1a ?y1b ?_ ?y1h; (case y1N => k_asm); (case y1m => k_mem); (case y1x => with_reducible assumption); (case y1a => omega); (case y1b => omega); (case y1h => with_unfolding_all rfl))) | (k_here; (with_reducible show wpAny _ _ (call (Value.builtin _) [Value.ref _, _]) _ _ _); k_dflt (refine' append_K ?y2k1 ?y2k2 ?y2k3 ?_ ?y2z; (case y2k1 => k_asm); (case y2k2 => k_asm); (case y2k3 => k_upd); (case y2z => ((simp only [List.size_toArray]); (rw [PySem.sizeLine_eq]); unfold Mine.hc at *; omega)); k_whole); intro h' F' N'; (try k_sweep)) | walk1 | (dsimp only; walk1) | fail "no step")
    have hb := O.plan k.toNat k' hk'
    k_dflt (refine' IH _ _ _ _ _ _ _ _ _ _ _ _ _ _ _ _ _ vh' vd' vf' vg' c6' S' k' t' ?k1 ?k2 ?k3 ?k4 ?k5 ?kN b1 b2 b3 b4 b5 ?kP hb.1 hb.2 b6 ?kd ?ku ?_)
    case k1 => k_asm
    case k2 => k_asm
    case k3 => k_asm
    case k4 => k_asm
    case k5 => rfl
    case kN => exact fun p hp => N' p (List.mem_append_left _ hp)
    case kP => exact hP.keep fun b o' hb' e => Fr.keep F' b o' (kg b o' e hb')
    case kd => ktr_room
    case ku => ktr_units
    intro h2 tk2 vh2 vd2 vf2 vg2 c62 F2 N2 d1 d2 d3 d4 kp2
    dsimp only
    repeat' (first | (k_unfold; (try dsimp only)) | (k_here; (rename Fr _ _ _ _ => lF'); (with_unfolding_all refine' For_invVF lF' ?y0k1 ?y0k2 ?_; (case y0k1 => exact rfl); (case y0k2 => exact rfl); k_whole)) | (k_here; (with_reducible show wpAny _ _ (subscriptTail _ _ (Value.ref _) (Value.int _ _)) _ _ _); k_dflt (refine' Mine.ref_sub ?y1N ?y1m ?y1x ?y1a ?y1b ?_ ?y1h; (case y1N => k_asm); (case y1m => k_mem); (case y1x => with_reducible assumption); (case y1a => omega); (case y1b => omega); (case y1h => with_unfolding_all rfl))) | (k_here; (with_reducible show wpAny _ _ (call (Value.builtin _) [Value.ref _, _]) _ _ _); k_dflt (refine' append_K ?y2k1 ?y2k2 ?y2k3 ?_ ?y2z; (case y2k1 => k_asm); (case y2k2 => k_asm); (case y2k3 => k_upd); (case y2z => ((simp only [List.size_toArray]); (rw [PySem.sizeLine_eq]); unfold Mine.hc at *; omega)); k_whole); intro h' F' N'; (try k_sweep)) | walk1 | (dsimp only; walk1) | fail "no step")
    exact ⟨_, _, some (.int k' t'), _, rfl, F2, news_app N2 (kp2.news (fun p hp => N' p (List.mem_append_right _ hp)) fun p hp hm => ho p hp _ hm rfl), rfl, _, _, _, _, _, rfl, d1, d2, d3, d4, letA_len O.plan b5 hb.1 hb.2, Nat.le_trans hc_letA b6⟩
  · rintro m₁ nx h2 tk2 ⟨vh2, vd2, vf2, vg2, c62, rfl, d1, d2, d3, d4, d5, d6⟩ hm F2 N2
    clear N9 F9 F N
    dsimp only
    repeat' (first | (k_unfold; (try dsimp only)) | (k_here; (rename Fr _ _ _ _ => lF'); (with_unfolding_all refine' For_invVF lF' ?y0k1 ?y0k2 ?_; (case y0k1 => exact rfl); (case y0k2 => exact rfl); k_whole)) | (k_here; (with_reducible show wpAny _ _ (subscriptTail _ _ (Value.ref _) (Value.int _ _)) _ _ _); k_dflt (refine' Mine.ref_sub ?y1N ?y1m ?y1x ?y1a ?y1b ?_ ?y1h; (case y1N => k_asm); (case y1m => k_mem); (case y1x => with_reducible assumption); (case y1a => omega); (case y1b => omega); (case y1h => with_unfolding_all rfl))) | (k_here; (with_reducible show wpAny _ _ (call (Value.builtin _) [Value.ref _, _]) _ _ _); k_dflt (refine' append_K ?y2k1 ?y2k2 ?y2k3 ?_ ?y2z; (case y2k1 => k_asm); (case y2k2 => k_asm); (case y2k3 => k_upd); (case y2z => ((simp only [List.size_toArray]); (rw [PySem.sizeLine_eq]); unfold Mine.hc at *; omega)); k_whole); intro h' F' N'; (try k_sweep)) | walk1 | (dsimp only; walk1) | fail "no step")
    exact ret _ _ _ _ _ _ _ (by assumption) (by assumption) d1 d2 d3 d4 (by assumption)
end Mine
end
theorem Mine.rs_OwnLet : True := by
  w_top off
  trivial
section
open PySem PySem.W PyProof.Rows PySem.Calls LSm
namespace Mine
theorem own_let {w : World} {p : Program} {loose : List PySem.Str} {mean : ExcName → Option Value} {mg mb : PySem.Str → Option Value} {o : OwnA} {plan : List (List Int)} {bl : List Bool} {n : Nat} (O : OwnOk w o plan bl n) {f g d : Nat}
    (IH : OwnSpec w p loose mean mg mb o plan bl n 420 d (fun S k => hc S.held + 1 ≤ g ∧ S.done.getD k.toNat false = false) (endsA plan bl f)) :
    OwnSpec w p loose mean mg mb o plan bl n 413 (d + 1) (fun S _ => hc S.held ≤ g) (letA plan bl (f + 1)) := by
  unfold OwnSpec Pr
  intro dp un gd cn cs a ccd cl outer A₀ base h₀ L m s Q E vh vd vf vg c6 S k tk B F X T hk N hvh hvd hvf hvg hS hP h0 h1 hpre hd hu ret
  revert X; k_fill; intro X
  obtain ⟨od, hl, dl, fl, bll, pl, gl, oo, vb, vp, c1, c2, c3, c4, c5⟩ := o
  have hdict := O.dict
  have hnd := O.nd
  have hn5 := O.small
  have hvb := O.bools
  have hbl := O.blen
  dsimp only [OwnA.ex, OwnA.adr] at *
  simp only [List.nodup_cons, List.mem_cons, List.not_mem_nil, or_false, not_or, not_false_eq_true, List.nodup_nil, and_true] at hnd
  obtain ⟨⟨n1, n2, n3, n4, n5, n6⟩, ⟨n7, n8, n9, n10, n11⟩, ⟨n12, n13, n14, n15⟩, ⟨n16, n17, n18⟩, ⟨n19, n20⟩, n21⟩ := hnd
  have hl1 := hS.held
  have hl2 := hS.done
  have hl3 := hS.freed
  have hl4 := hS.log
  have hl5 := IntsAre.length hvg
  have hl6 := hc_le S.done
  refine wpAny_call ?_
  k_dflt (first | (refine' Mine.code_defK ?k1 ?k2 ?k3 ?k4 ?k5 ?kA ?kF ?kK ?k6 ?k7 ?k8 ?k9 ?kB ?_ ?c2 ?c3 ?c4 ?c5; (case kA => exact rfl); (case kF => exact rfl); (case kK => assumption); (case k1 => k_asm); (case k2 => k_asm); (case k3 => k_asm); (case k4 => k_asm); (case k5 => k_asm); (case k6 => k_is); (case k7 => k_is); (case k8 => ktr_room); (case k9 => exact BindsTo.of_eq rfl); (case c5 => decide); (case kB => exact locs rfl); (case c2 => exact rfl); (case c3 => exact rfl); (case c4 => exact rfl); k_whole; intro g' L' h' kg' FG' F' N' B' X' T' l1; (try k_lt l1); (try dsimp only); (have lL := Mine.lt_frames FG' F'); (try k_fold)) | fail "no entry")
  repeat' ((fail_if_success (with_reducible show wpAny _ _ (call (Value.ref 420) _) _ _ _)); first | (k_unfold; (try dsimp only)) | walk1 | (dsimp only; walk1) | fail "no step")
  all_goals try (
    (rename List.getD S.held _ _ = false => z1)
    rw [letA_off z1] at ret
    exact ret _ _ _ _ _ _ _ (by k_asm) (by k_asm) hvh hvd hvf hvg (by assumption))
  all_goals try (
    (rename List.getD S.held _ _ = true => z1)
    (rename List.getD bl _ _ = false => z2)
    rw [letA_on z1, if_neg (by rw [z2]; simp)] at ret
    exact ret _ _ _ _ _ _ _ (by k_asm) (by k_asm) (by assumption) (by assumption) (by assumption) (by assumption) (by assumption))
  all_goals try (
    (rename List.getD S.held _ _ = true => z1)
    (rename List.getD S.done _ _ = true => z2)
    rw [letA_on z1, if_neg (by rw [z2]; simp)] at ret
    exact ret _ _ _ _ _ _ _ (by k_asm) (by k_asm) (by assumption) (by assumption) (by assumption) (by assumption) (by assumption))
  rename List.getD S.held _ _ = true => z1
  rename List.getD bl _ _ = true => z2
  rename List.getD S.done _ _ = false => z3
  rename ∀ b o, Heap.get? _ b = some o → _ ∉ _ → Heap.get? _ b = some o => kg
  rename BoolsAre (vh.set _ _) _ => hb9
  rename News _ _ _ _ => N9
  rename Fr _ _ _ _ => F9
  rw [letA_on z1, if_pos (by rw [z2, z3]; rfl)] at ret
  have hcc := hc_set z1
  have hS1 : (S.unhold k).Len n := hS.unhold
  have hS2 := endsA_len O.plan (f := f) (bl := bl) hS1 z3 h0 h1
  k_dflt (refine' IH _ _ _ _ _ _ _ _ _ _ _ _ _ _ _ _ _ _ vd vf vg c6 (S.unhold k) k _ ?k1 ?k2 ?k3 ?k4 ?k5 N9 hb9 hvd hvf hvg hS1 ?kP h0 h1 ⟨?kh, z3⟩ ?kd ?ku ?_)
  case k1 => k_asm
  case k2 => k_asm
  case k3 => k_asm
  case k4 => k_asm
  case k5 => rfl
  case kP => exact hP.keep fun b o' hb' e => Fr.keep F9 b o' (kg b o' e hb')
  case kh => show hc (S.held.set k.toNat false) + 1 ≤ g; omega
  case kd => ktr_room
  case ku => ktr_units
  intro h2 tk2 vh2 vd2 vf2 vg2 c62 F2 N2 d1 d2 d3 d4 kp2
  clear N9 F9 F N
  have hl31 := hS2.freed
  dsimp only [OwnA.ex] at N2 ⊢
  repeat' (first | (k_unfold; (try dsimp only)) | walk1 | (dsimp only; walk1) | fail "no step")
  exact ret _ _ _ _ _ _ _ (by k_asm) (by k_asm) d1 d2 (by assumption) d4 (by assumption)
end Mine
end
section
open PySem PySem.W PyProof.Rows PySem.Calls LSm
namespace Mine
theorem OwnSpec.congr {w : World} {p : Program} {loose : List PySem.Str} {mean : ExcName → Option Value} {mg mb : PySem.Str → Option Value} {o : OwnA} {plan : List (List Int)} {bl : List Bool} {n : Nat} {fa : Addr} {d : Nat} {pre pre' : S → Int → Prop} {post post' : S → Int → S}
    (x : OwnSpec w p loose mean mg mb o plan bl n fa d pre post) (h : ∀ S k, pre' S k → pre S k ∧ post S k = post' S k) : OwnSpec w p loose mean mg mb o plan bl n fa d pre' post' := by
  intro dp un gd cn cs a ccd cl outer A₀ base h₀ L m s Q E vh vd vf vg c6 S k tk B F X T hk N hvh hvd hvf hvg hS hP h0 h1 hpre hd hu ret
  obtain ⟨e1, e2⟩ := h S k hpre
  refine x dp un gd cn cs a ccd cl outer A₀ base h₀ L m s Q E vh vd vf vg c6 S k tk B F X T hk N hvh hvd hvf hvg hS hP h0 h1 e1 hd hu ?_
  rw [e2]; exact ret
theorem hc_zero {l : List Bool} (h : hc l ≤ 0) (k : Nat) : l.getD k false = false := by
  cases e : l.getD k false with
  | false => rfl
  | true => have := hc_set e; omega
theorem own_all {w : World} {p : Program} {loose : List PySem.Str} {mean : ExcName → Option Value} {mg mb : PySem.Str → Option Value} {o : OwnA} {plan : List (List Int)} {bl : List Bool} {n : Nat} (O : OwnOk w o plan bl n) :
    ∀ f, OwnSpec w p loose mean mg mb o plan bl n 413 (2 * f + 1) (fun S _ => hc S.held ≤ f) (letA plan bl f)
  | 0 => by
    have v : OwnSpec w p loose mean mg mb o plan bl n 420 0 (fun S k => hc S.held + 1 ≤ 0 ∧ S.done.getD k.toNat false = false) (endsA plan bl 0) := by
      intro dp un gd cn cs a ccd cl outer A₀ base h₀ L m s Q E vh vd vf vg c6 S k tk B F X T hk N hvh hvd hvf hvg hS hP h0 h1 hpre
      exact absurd hpre.1 (Nat.not_succ_le_zero _)
    exact (own_let O v).congr fun S k h => ⟨h, by rw [letA_off (hc_zero h _), letA_off (hc_zero h _)]⟩
  | f + 1 => (own_let O ((own_ends O (own_all O f)).congr (pre' := fun S k => hc S.held + 1 ≤ f + 1 ∧ S.done.getD k.toNat false = false) fun S k h => ⟨⟨Nat.le_of_succ_le_succ h.1, h.2⟩, rfl⟩)).congr fun S k h => ⟨h, rfl⟩
theorem own_ends_all {w : World} {p : Program} {loose : List PySem.Str} {mean : ExcName → Option Value} {mg mb : PySem.Str → Option Value} {o : OwnA} {plan : List (List Int)} {bl : List Bool} {n : Nat} (O : OwnOk w o plan bl n) (f : Nat) :
    OwnSpec w p loose mean mg mb o plan bl n 420 (2 * f + 2) (fun S k => hc S.held ≤ f ∧ S.done.getD k.toNat false = false) (endsA plan bl f) := own_ends O (own_all O f)
end Mine
end
section
open PySem PySem.W PyProof.Rows PySem.Calls LSm
namespace Mine
/-- law's own statements, read off the given program -/
noncomputable def lawStmt (i : Nat) : Stmt := match Pr.main.body.getLast? with
  | some (.FunctionDef _ _ body _ _ _ _ _ _ _) => body.getD i default
  | _ => default
/-- the function object that a def statement of law's makes -/
noncomputable def mkFn (st : Stmt) (clos : List (PySem.Str × Addr)) (doc pm : Value) (c' : Addr) (ctv : Value) : Obj := match st with
  | .FunctionDef name params body _ _ _ scope _ _ _ => fnMade name (PySem.Str.ofString "law" ++ PySem.Str.ofString ".<locals>." ++ name) params body scope clos doc pm c' ctv
  | _ => default
noncomputable abbrev heapD (P : Params) (t1 t2 t3 tn : Tok) (lim : Addr) (last : Int) (z : Addr) : Obj :=
  dictOf [ent P (PySem.Str.ofString "limits") t1 (.ref lim), ent P (PySem.Str.ofString "last") t2 (.int last tn), ent P (PySem.Str.ofString "zero") t3 (.ref z)] 3
noncomputable abbrev counterD (P : Params) (t1 t2 t3 t4 : Tok) (xh fD pd ed : Addr) : Obj :=
  dictOf [ent P (PySem.Str.ofString "heap") t1 (.ref xh), ent P (PySem.Str.ofString "destroy") t2 (.ref fD), ent P (PySem.Str.ofString "places") t3 (.ref pd), ent P (PySem.Str.ofString "empties") t4 (.ref ed)] 4
/-- what a thing's dict holds -/
structure Th where
  t1 : Tok
  t2 : Tok
  t3 : Tok
  t4 : Tok
  t5 : Tok
  t6 : Tok
  t7 : Tok
  t8 : Tok
  tn : Tok
  tc : Tok
  cnt : Int
  wk : Addr
  dest : Bool
  freed : Bool
  it : Addr
noncomputable abbrev Th.obj (P : Params) (num : Int) (bv : Value) (θ : Th) : Obj := thingD P θ.t1 θ.t2 θ.t3 θ.t4 θ.t5 θ.t6 θ.t7 θ.t8 θ.tn θ.tc num θ.cnt bv θ.wk θ.dest θ.freed θ.it
/-- where all lies that the law builds -/
structure RealA where
  cc : Addr
  cp : Addr
  ch : Addr
  ct : Addr
  co : Addr
  cL : Addr
  ce : Addr
  occ : Obj
  ocp : Obj
  och : Obj
  oct : Obj
  oco : Obj
  ocL : Obj
  oce : Obj
  fL : Addr
  fD : Addr
  kL : Addr
  kD : Addr
  dL : Value
  dD : Value
  pL : Value
  pD : Value
  tL : Value
  tD : Value
  xc : Addr
  dc : Addr
  c1 : Tok
  c2 : Tok
  c3 : Tok
  c4 : Tok
  pd : Addr
  ed : Addr
  xh : Addr
  dh : Addr
  h1 : Tok
  h2 : Tok
  h3 : Tok
  hn : Tok
  lim : Addr
  last : Int
  hl : Addr
  el : Addr
  tl : Addr
  nh : Nat
  nt : Nat
  o : OwnA
  okL : Obj
  okD : Obj
  q : Nat → Addr
  pv : Nat → List Value
  cq : Nat → Nat
  x : Nat → Addr
  d : Nat → Addr
  wk : Nat → Addr
  it : Nat → Addr
  nw : Nat → Nat
  ni : Nat → Nat
  bv : Nat → Value
noncomputable abbrev RealA.oL (r : RealA) : Obj := mkFn (lawStmt 9) [(PySem.Str.ofString "things", r.ct), (PySem.Str.ofString "held", r.ch), (PySem.Str.ofString "heap", r.cp), (PySem.Str.ofString "counter", r.cc)] r.dL r.pL r.kL r.tL
noncomputable abbrev RealA.oD (r : RealA) : Obj := mkFn (lawStmt 10) [(PySem.Str.ofString "things", r.ct), (PySem.Str.ofString "own", r.co), (PySem.Str.ofString "let", r.cL), (PySem.Str.ofString "heard", r.ce)] r.dD r.pD r.kD r.tD
example (r : RealA) : ∃ b, r.oL.data = .func b := ⟨_, rfl⟩
example (r : RealA) : ∃ n q p b s cl dV kV doc pm an cdv ct, r.oL.data = .func (fnX n q p b s cl dV kV doc pm an cdv ct) ∧ n = PySem.Str.ofString "let" := ⟨_, _, _, _, _, _, _, _, _, _, _, _, _, rfl, rfl⟩
example (r : RealA) : ∃ n q p b s cl dV kV doc pm an cdv ct, r.oD.data = .func (fnX n q p b s cl dV kV doc pm an cdv ct) ∧ n = PySem.Str.ofString "destroy" := ⟨_, _, _, _, _, _, _, _, _, _, _, _, _, rfl, rfl⟩
/-- the things as a list of references -/
noncomputable abbrev RealA.vt (r : RealA) (n : Nat) : List Value := (List.range n).map fun j => .ref (r.x j)
/-- what the code's side holds, the things' own parts aside; z: the heap's list of zeros -/
noncomputable abbrev RealA.ex (r : RealA) (w : World) (n : Nat) (z : Addr) (zs : Array Value) (nz : Nat) (vh ve : List Value) (ne : Nat) : List (Addr × Obj) :=
  [(r.cc, r.occ), (r.cp, r.ocp), (r.ch, r.och), (r.ct, r.oct), (r.co, r.oco), (r.cL, r.ocL), (r.ce, r.oce), (r.fL, r.oL), (r.fD, r.oD), (r.kL, r.okL), (r.kD, r.okD),
   (r.xc, instObj 359 r.dc), (r.dc, counterD w.params r.c1 r.c2 r.c3 r.c4 r.xh r.fD r.pd r.ed), (r.xh, instObj 218 r.dh), (r.dh, heapD w.params r.h1 r.h2 r.h3 r.hn r.lim r.last z),
   (z, listOf zs nz), (r.hl, listOf vh.toArray r.nh), (r.el, listOf ve.toArray ne), (r.tl, listOf (r.vt n).toArray r.nt), (r.o.od, r.o.oo), (r.o.pl, listOf r.o.vp.toArray r.o.c5)]
noncomputable abbrev RealA.adr (r : RealA) : List Addr := [r.cc, r.cp, r.ch, r.ct, r.co, r.cL, r.ce, r.fL, r.fD, r.kL, r.kD, r.xc, r.dc, r.xh, r.dh, r.hl, r.el, r.tl, r.o.od, r.o.pl]
/-- one thing: the part that turns, the part that stays -/
noncomputable abbrev RealA.thD (r : RealA) (w : World) (θ : Nat → Th) (j : Nat) : Addr × Obj := (r.d j, (θ j).obj w.params ((j : Int) + 1) (r.bv j))
noncomputable abbrev RealA.roL (r : RealA) (j : Nat) : List (Addr × Obj) := [(r.x j, instObj 78 (r.d j)), (r.wk j, listOf #[] (r.nw j)), (r.it j, listOf #[] (r.ni j)), (r.q j, listOf (r.pv j).toArray (r.cq j))]
noncomputable def RealA.ths (r : RealA) (w : World) (n : Nat) (θ : Nat → Th) : List (Addr × Obj) := (List.range n).map (r.thD w θ) ++ (List.range n).flatMap r.roL
theorem RealA.ths_d {r : RealA} {w : World} {n : Nat} {θ : Nat → Th} {j : Nat} (h : j < n) : r.thD w θ j ∈ r.ths w n θ := List.mem_append_left _ (List.mem_map.mpr ⟨j, List.mem_range.mpr h, rfl⟩)
theorem RealA.ths_ro {r : RealA} {w : World} {n : Nat} {θ : Nat → Th} {j : Nat} (h : j < n) {p : Addr × Obj} (hp : p ∈ r.roL j) : p ∈ r.ths w n θ := List.mem_append_right _ (List.mem_flatMap.mpr ⟨j, List.mem_range.mpr h, hp⟩)
theorem RealA.ths_cases {r : RealA} {w : World} {n : Nat} {θ : Nat → Th} {p : Addr × Obj} (h : p ∈ r.ths w n θ) : ∃ j, j < n ∧ (p = r.thD w θ j ∨ p ∈ r.roL j) := by
  rcases List.mem_append.mp h with h | h
  · obtain ⟨j, hj, rfl⟩ := List.mem_map.mp h
    exact ⟨j, List.mem_range.mp hj, .inl rfl⟩
  · obtain ⟨j, hj, hp⟩ := List.mem_flatMap.mp h
    exact ⟨j, List.mem_range.mp hj, .inr hp⟩
/-- what stands of the fixed part -/
structure RealOk (w : World) (r : RealA) (plan : List (List Int)) (bl : List Bool) (n : Nat) : Prop where
  ecc : r.occ.data = .cell (some (.ref r.xc))
  ecp : r.ocp.data = .cell (some (.ref r.xh))
  ech : r.och.data = .cell (some (.ref r.hl))
  ect : r.oct.data = .cell (some (.ref r.tl))
  eco : r.oco.data = .cell (some (.ref r.o.od))
  ecL : r.ocL.data = .cell (some (.ref r.fL))
  ece : r.oce.data = .cell (some (.ref r.el))
  ekL : ∃ vs t, r.okL.data = .fields vs ∧ vs[1]? = some (.str (PySem.Str.ofString "law" ++ PySem.Str.ofString ".<locals>." ++ PySem.Str.ofString "let") t)
  ekD : ∃ vs t, r.okD.data = .fields vs ∧ vs[1]? = some (.str (PySem.Str.ofString "law" ++ PySem.Str.ofString ".<locals>." ++ PySem.Str.ofString "destroy") t)
  dict : Obj.IsDictOf (PySem.strKind Pr w) r.o.oo [(PySem.Str.ofString "held", .ref r.o.hl), (PySem.Str.ofString "done", .ref r.o.dl), (PySem.Str.ofString "freed", .ref r.o.fl), (PySem.Str.ofString "blessed", .ref r.o.bll), (PySem.Str.ofString "plan", .ref r.o.pl), (PySem.Str.ofString "log", .ref r.o.gl)]
  nd : r.adr.Nodup
  dne : ∀ i j, i < n → j < n → i ≠ j → @Ne Nat (r.d i) (r.d j)
  dro : ∀ i j, i < n → j < n → @Ne Nat (r.d i) (r.x j) ∧ @Ne Nat (r.d i) (r.wk j) ∧ @Ne Nat (r.d i) (r.it j) ∧ @Ne Nat (r.d i) (r.q j)
  dadr : ∀ j, j < n → r.d j ∉ r.adr
  roadr : ∀ j, j < n → r.x j ∉ r.adr ∧ r.wk j ∉ r.adr ∧ r.it j ∉ r.adr ∧ r.q j ∉ r.adr
  inplan : InPlan plan n
  items : ∀ j, j < n → r.o.vp[j]? = some (.ref (r.q j)) ∧ IntsAre (r.pv j) (plan.getD j [])
  small : n ≤ 5
  blen : bl.length = n
  bless : ∀ j, j < n → (bl.getD j false = true → ∃ t, r.bv j = .str (PySem.Str.ofString "P") t) ∧ (bl.getD j false = false → r.bv j = .none)
/-- the list of zeros lies off all the rest -/
noncomputable def RealA.Zoff (r : RealA) (n : Nat) (z : Addr) : Prop := z ∉ r.adr ∧ ∀ j, j < n → @Ne Nat z (r.d j) ∧ @Ne Nat z (r.x j) ∧ @Ne Nat z (r.wk j) ∧ @Ne Nat z (r.it j) ∧ @Ne Nat z (r.q j)
/-- the things say what the plain state says -/
structure RelR (r : RealA) (n : Nat) (S : S) (θ : Nat → Th) : Prop where
  dest : ∀ j, j < n → (θ j).dest = S.done.getD j false
  freed : ∀ j, j < n → (θ j).freed = S.freed.getD j false
  on : ∀ j, j < n → S.held.getD j false = true → (θ j).cnt = 1 ∧ (θ j).wk = r.wk j ∧ (θ j).it = r.it j ∧ (θ j).freed = false
/-- what a call leaves as it was: a thing that was not held ahead of it; what it lets go of has count nought -/
noncomputable def Left (n : Nat) (A A' : S) (θ θ' : Nat → Th) : Prop := (∀ j, j < n → A.held.getD j false = false → θ' j = θ j) ∧ ∀ j, j < n → A.held.getD j false = true → A'.held.getD j false = false → (θ' j).cnt = 0
noncomputable abbrev RealA.all (r : RealA) (w : World) (n : Nat) (z : Addr) (zs : Array Value) (nz : Nat) (vh ve : List Value) (ne : Nat) (θ : Nat → Th) : List (Addr × Obj) := r.ex w n z zs nz vh ve ne ++ r.ths w n θ
noncomputable def RealA.adrs (r : RealA) (n : Nat) (z : Addr) : List Addr := z :: r.adr ++ (List.range n).flatMap fun j => [r.d j, r.x j, r.wk j, r.it j, r.q j]
theorem nodup_ne {l₁ l₂ : List Addr} {a : Addr} (h : (l₁ ++ a :: l₂).Nodup) : ∀ b ∈ l₁ ++ l₂, @Ne Nat b a := fun b hb e => by
  have h1 := List.nodup_append.mp h
  rcases List.mem_append.mp hb with hb | hb
  · exact h1.2.2 b hb a List.mem_cons_self e
  · exact (List.nodup_cons.mp h1.2.1).1 (e ▸ hb)
theorem not_mem_ne {l : List Addr} {a b : Addr} (h : a ∉ l) (hb : b ∈ l) : @Ne Nat a b := fun e => h (e ▸ hb)
theorem RealA.dh_ne {r : RealA} (h : r.adr.Nodup) : @Ne Nat r.cc r.dh ∧ @Ne Nat r.cp r.dh ∧ @Ne Nat r.ch r.dh ∧ @Ne Nat r.ct r.dh ∧ @Ne Nat r.co r.dh ∧ @Ne Nat r.cL r.dh ∧ @Ne Nat r.ce r.dh ∧ @Ne Nat r.fL r.dh ∧ @Ne Nat r.fD r.dh ∧ @Ne Nat r.kL r.dh ∧ @Ne Nat r.kD r.dh ∧ @Ne Nat r.xc r.dh ∧ @Ne Nat r.dc r.dh ∧ @Ne Nat r.xh r.dh ∧ @Ne Nat r.hl r.dh ∧ @Ne Nat r.el r.dh ∧ @Ne Nat r.tl r.dh ∧ @Ne Nat r.o.od r.dh ∧ @Ne Nat r.o.pl r.dh := by
  have e := nodup_ne (l₁ := [r.cc, r.cp, r.ch, r.ct, r.co, r.cL, r.ce, r.fL, r.fD, r.kL, r.kD, r.xc, r.dc, r.xh]) (a := r.dh) (l₂ := [r.hl, r.el, r.tl, r.o.od, r.o.pl]) h
  simpa only [List.cons_append, List.nil_append, List.forall_mem_cons, List.forall_mem_nil, and_true, List.not_mem_nil, false_implies, implies_true] using e
theorem RealA.hl_ne {r : RealA} (h : r.adr.Nodup) : @Ne Nat r.cc r.hl ∧ @Ne Nat r.cp r.hl ∧ @Ne Nat r.ch r.hl ∧ @Ne Nat r.ct r.hl ∧ @Ne Nat r.co r.hl ∧ @Ne Nat r.cL r.hl ∧ @Ne Nat r.ce r.hl ∧ @Ne Nat r.fL r.hl ∧ @Ne Nat r.fD r.hl ∧ @Ne Nat r.kL r.hl ∧ @Ne Nat r.kD r.hl ∧ @Ne Nat r.xc r.hl ∧ @Ne Nat r.dc r.hl ∧ @Ne Nat r.xh r.hl ∧ @Ne Nat r.dh r.hl ∧ @Ne Nat r.el r.hl ∧ @Ne Nat r.tl r.hl ∧ @Ne Nat r.o.od r.hl ∧ @Ne Nat r.o.pl r.hl := by
  have e := nodup_ne (l₁ := [r.cc, r.cp, r.ch, r.ct, r.co, r.cL, r.ce, r.fL, r.fD, r.kL, r.kD, r.xc, r.dc, r.xh, r.dh]) (a := r.hl) (l₂ := [r.el, r.tl, r.o.od, r.o.pl]) h
  simpa only [List.cons_append, List.nil_append, List.forall_mem_cons, List.forall_mem_nil, and_true, List.not_mem_nil, false_implies, implies_true] using e
theorem RealA.el_ne {r : RealA} (h : r.adr.Nodup) : @Ne Nat r.cc r.el ∧ @Ne Nat r.cp r.el ∧ @Ne Nat r.ch r.el ∧ @Ne Nat r.ct r.el ∧ @Ne Nat r.co r.el ∧ @Ne Nat r.cL r.el ∧ @Ne Nat r.ce r.el ∧ @Ne Nat r.fL r.el ∧ @Ne Nat r.fD r.el ∧ @Ne Nat r.kL r.el ∧ @Ne Nat r.kD r.el ∧ @Ne Nat r.xc r.el ∧ @Ne Nat r.dc r.el ∧ @Ne Nat r.xh r.el ∧ @Ne Nat r.dh r.el ∧ @Ne Nat r.hl r.el ∧ @Ne Nat r.tl r.el ∧ @Ne Nat r.o.od r.el ∧ @Ne Nat r.o.pl r.el := by
  have e := nodup_ne (l₁ := [r.cc, r.cp, r.ch, r.ct, r.co, r.cL, r.ce, r.fL, r.fD, r.kL, r.kD, r.xc, r.dc, r.xh, r.dh, r.hl]) (a := r.el) (l₂ := [r.tl, r.o.od, r.o.pl]) h
  simpa only [List.cons_append, List.nil_append, List.forall_mem_cons, List.forall_mem_nil, and_true, List.not_mem_nil, false_implies, implies_true] using e
end Mine
end
theorem Mine.rs_RealSpec : True := by
  w_top off
  trivial
section
open PySem PySem.W PyProof.Rows PySem.Calls LSm
namespace Mine
section
variable {prog : Program} {w : World} {A A₀ : Around} {s : Shared} {K : Frag} {L : Addr} {h₀ base : Heap} {m mg mb : PySem.Str → Option Value} {Ex R : List (Addr × Obj)} {p : Program} {loose : List PySem.Str} {mean : ExcName → Option Value}
  {env : Env} {outer : List Env} {R₀ : Result → Shared → Prop} {name qual : PySem.Str} {params : Arguments} {body : List Stmt} {scope : Scope} {cl : List (PySem.Str × Addr)} {dV kV doc pm cdv ct : Value} {an : Option Addr} {fo : Obj} {f : Addr} {args : Args} {binds : List (PySem.Str × Value)}
/-- a def of the ledger, or of the top, entered with Ex; the opaque part R lies in the walk's base g₁, g does not speak of it -/
theorem callG_plain (B : Below A₀ base outer h₀) (F : Fr h₀ L s.heap m) (N : News h₀ L s.heap (Ex ++ R)) (hoff : AllOff R Ex) (X₀ : K.In h₀) (T : Top p loose mean mg mb h₀) (hA : A.frames = some (env :: outer)) (hf : env.frame = some L) (hke : env.scope.kind = .function)
    (ho : s.heap.get? f = some fo) (hd : fo.data = .func (fnX name qual params body scope cl dV kV doc pm an cdv ct)) (hcd : s.heap.CodeRec cdv qual) (hroom : A.depth < recursionLimit)
    (hbind : BindsTo s (fnX name qual params body scope cl dV kV doc pm an cdv ct) args binds) (hloc : ∀ y ∈ binds, scope.names.lookup y.1 = some .local)
    (h : ∀ g g₁ L' h₁, Reb g g₁ L' R → (Below A base (env :: outer) g ∧ K.In g ∧ Top p loose mean mg mb g ∧ ∀ b o, s.heap.get? b = some o → b ∉ (Ex ++ R).map (·.1) → g.get? b = some o) → Fr h₀ L g₁ m → Fr g₁ L' h₁ (fun y => binds.reverse.lookup y) → News g₁ L' h₁ Ex → Below A base (env :: outer) g₁ → K.In g₁ → Top p loose mean mg mb g₁ → (∀ p ∈ Ex, p.1 < L') → (∀ p ∈ R, p.1 < L') → @LT.lt Nat _ L L' →
      wpAny (model prog w) (A.deeper (envX qual scope L' f cdv cl)) (execs body (envX qual scope L' f cdv cl))
        (fun fl s' => LeaveK h₀ L m g (fun r s'' => Keep ((Ex ++ R).map (·.1)) s.heap s''.heap → R₀ r s'') (match fl with | .ret v => v | _ => .none) s')
        (fun e s' => wpAny (model prog w) (A.deeper (envX qual scope L' f cdv cl)) (leaving (envX qual scope L' f cdv cl) e) (fun _ s'' => R₀ (.error e) s'') (fun e' s'' => R₀ (.error e') s'') s')
        { s with heap := h₁, toks := s.toks + binds.length })
    (hcell : ∀ x ∈ scope.names, x.2 ≠ .cell) (hco : scope.isCoroutine = false) (hgen : scope.isGenerator = false) (hk : scope.kind = .function) : codeAny (model prog w) A (.call (.ref f) args) R₀ s :=
  callK_plain B F N T.nolimit hA hf hke ho hd hcd hroom hbind hloc (fun g L' h₁ kg FG F' N' B' st l => by
    obtain ⟨g₁, S, F₁, N₁⟩ := rebase F' N' (fun p hp => l p (List.mem_append_right _ hp)) hoff
    exact h g g₁ L' h₁ S ⟨B', X₀.keeps st, T.keeps st, kg⟩ (FG.keeps S.sub) F₁ N₁ (below_up B' S) ((X₀.keeps st).keeps S.sub) ((T.keeps st).keeps S.sub) (fun p hp => l p (List.mem_append_left _ hp)) (fun p hp => l p (List.mem_append_right _ hp)) (lt_frames FG F')) hcell hco hgen hk
theorem code_defG2 {od oc} {osl : Array (Option Value)} (B : Below A₀ base outer h₀) (F : Fr h₀ L s.heap m) (N : News h₀ L s.heap (Ex ++ R)) (hoff : AllOff R Ex) (X₀ : K.In h₀) (T : Top p loose mean mg mb h₀) (hA : A.frames = some (env :: outer)) (hf : env.frame = some L) (hke : env.scope.kind = .function)
    (ho : K.lookup f = some ⟨oc, od, .func (fnOf name qual params body scope dV kV doc pm an cdv ct), osl⟩) (hcd : codeIn K cdv qual = true) (hroom : A.depth < recursionLimit)
    (hbind : BindsTo s (fnOf name qual params body scope dV kV doc pm an cdv ct) args binds) (hloc : ∀ y ∈ binds, scope.names.lookup y.1 = some .local)
    (h : ∀ g g₁ L' h₁, Reb g g₁ L' R → (Below A base (env :: outer) g ∧ K.In g ∧ Top p loose mean mg mb g ∧ ∀ b o, s.heap.get? b = some o → b ∉ (Ex ++ R).map (·.1) → g.get? b = some o) → Fr h₀ L g₁ m → Fr g₁ L' h₁ (fun y => binds.reverse.lookup y) → News g₁ L' h₁ Ex → Below A base (env :: outer) g₁ → K.In g₁ → Top p loose mean mg mb g₁ → (∀ p ∈ Ex, p.1 < L') → (∀ p ∈ R, p.1 < L') → @LT.lt Nat _ L L' →
      wpAny (model prog w) (A.deeper (envOf qual scope L' f cdv)) (execs body (envOf qual scope L' f cdv))
        (fun fl s' => LeaveK h₀ L m g (fun r s'' => Keep ((Ex ++ R).map (·.1)) s.heap s''.heap → R₀ r s'') (match fl with | .ret v => v | _ => .none) s')
        (fun e s' => wpAny (model prog w) (A.deeper (envOf qual scope L' f cdv)) (leaving (envOf qual scope L' f cdv) e) (fun _ s'' => R₀ (.error e) s'') (fun e' s'' => R₀ (.error e') s'') s')
        { s with heap := h₁, toks := s.toks + binds.length })
    (hco : scope.isCoroutine = false) (hgen : scope.isGenerator = false) (hk : scope.kind = .function) (hcell : ∀ x ∈ scope.names, x.2 ≠ .cell) : codeAny (model prog w) A (.call (.ref f) args) R₀ s :=
  callG_plain (cl := []) B F N hoff X₀ T hA hf hke ((X₀.keeps F.keep) _ _ ho) rfl (codeRec_of (X₀.keeps F.keep) hcd) hroom hbind hloc h hcell hco hgen hk
end
/-- a call on the code's side: what it asks, what it does -/
noncomputable def RSpec (w : World) (p : Program) (loose : List PySem.Str) (mean : ExcName → Option Value) (mg mb : PySem.Str → Option Value) (r : RealA) (n : Nat) (fa : Addr) (dd : Nat) (args : Int → Tok → List Value) (zs : Int → Array Value)
    (pre : S → (Nat → Th) → Int → Prop) (post : S → Int → S) (lft : S → Int → (Nat → Th) → (Nat → Th) → Prop) : Prop :=
  ∀ (dp un : Nat) (gd : Option (List Code)) (cn : PySem.Str) (cs : Scope) (a : Addr) (ccd : Value) (cl : List (PySem.Str × Addr)) (outer : List Env) (A₀ : Around) (base h₀ : Heap) (L : Addr) (m : PySem.Str → Option Value) (s : Shared) (Q E : Value → Shared → Prop)
    (z : Addr) (nz : Nat) (vh ve : List Value) (ne : Nat) (θ : Nat → Th) (S : S) (k : Int) (tk : Tok),
    Below A₀ base outer h₀ → Fr h₀ L s.heap m → (hd.heap_1 w.params).In h₀ → Top p loose mean mg mb h₀ → cs.kind = .function →
    News h₀ L s.heap (r.all w n z (zs k) nz vh ve ne θ) → BoolsAre vh S.held → IntsAre ve S.log → S.Len n → RelR r n S θ → r.Zoff n z → 0 ≤ k → k < (n : Int) → pre S θ k →
    dp + dd < recursionLimit → un + 8 * dd < cLine →
    (∀ h' tk' z' nz' vh' ve' ne' θ', Fr h₀ L h' m → News h₀ L h' (r.all w n z' #[] nz' vh' ve' ne' θ') → BoolsAre vh' (post S k).held → IntsAre ve' (post S k).log → RelR r n (post S k) θ' → r.Zoff n z' → lft S k θ θ' → (z' = z ∨ s.heap.get? z' = none) → Keep (r.adrs n z) s.heap h' → Q .none { s with heap := h', toks := tk' }) →
    wpAny (model Pr w) (ktrTop dp un gd cn cs L a ccd cl outer) (call (.ref fa) (args k tk)) Q E s
/-- DESTROY's body, behind the mark -/
noncomputable def destA (plan : List (List Int)) (bl : List Bool) (f : Nat) (s : S) (k : Int) : S := (plan.getD k.toNat []).foldl (letA plan bl f) { s with log := s.log ++ [k] }
noncomputable def finA (plan : List (List Int)) (bl : List Bool) (f : Nat) (s : S) (k : Int) : S := if bl.getD k.toNat false && !(s.done.getD k.toNat false) then endsA plan bl f s k else s
noncomputable def LeftBut (n : Nat) (k : Nat) (A A' : S) (θ θ' : Nat → Th) : Prop := (∀ j, j < n → j ≠ k → A.held.getD j false = false → θ' j = θ j) ∧ ∀ j, j < n → j ≠ k → A.held.getD j false = true → A'.held.getD j false = false → (θ' j).cnt = 0
noncomputable def LetR (w : World) (p : Program) (loose : List PySem.Str) (mean : ExcName → Option Value) (mg mb : PySem.Str → Option Value) (r : RealA) (plan : List (List Int)) (bl : List Bool) (n f dd : Nat) : Prop :=
  RSpec w p loose mean mg mb r n r.fL dd (fun k t => [.int k t]) (fun _ => #[]) (fun S _ _ => hc S.held ≤ f) (letA plan bl f) fun S k θ θ' => Left n S (letA plan bl f S k) θ θ'
noncomputable def DestR (w : World) (p : Program) (loose : List PySem.Str) (mean : ExcName → Option Value) (mg mb : PySem.Str → Option Value) (r : RealA) (plan : List (List Int)) (bl : List Bool) (n f dd : Nat) : Prop :=
  RSpec w p loose mean mg mb r n r.fD dd (fun k _ => [.ref (r.x k.toNat)]) (fun _ => #[]) (fun S _ _ => S.log.length + 1 ≤ S.done.count true ∧ hc S.held ≤ f) (destA plan bl f) fun S k θ θ' => Left n S (destA plan bl f S k) θ θ'
noncomputable def FinR (w : World) (p : Program) (loose : List PySem.Str) (mean : ExcName → Option Value) (mg mb : PySem.Str → Option Value) (r : RealA) (plan : List (List Int)) (bl : List Bool) (n f dd : Nat) : Prop :=
  RSpec w p loose mean mg mb r n 349 dd (fun k _ => [.ref r.xc, .ref (r.x k.toNat)]) (fun _ => #[]) (fun S θ k => S.held.getD k.toNat false = false ∧ (θ k.toNat).cnt = 0 ∧ hc S.held ≤ f) (finA plan bl f)
    fun S k θ θ' => LeftBut n k.toNat S (finA plan bl f S k) θ θ' ∧ (θ' k.toNat).cnt = 0 ∧ (θ' k.toNat).wk = (θ k.toNat).wk ∧ (θ' k.toNat).it = (θ k.toNat).it ∧ (θ' k.toNat).freed = (θ k.toNat).freed
noncomputable def SetR (w : World) (p : Program) (loose : List PySem.Str) (mean : ExcName → Option Value) (mg mb : PySem.Str → Option Value) (r : RealA) (plan : List (List Int)) (bl : List Bool) (n f dd : Nat) : Prop :=
  RSpec w p loose mean mg mb r n 342 dd (fun _ t => [.ref r.xc, .int 0 t]) (fun k => #[.ref (r.x k.toNat)])
    (fun S θ k => S.held.getD k.toNat false = false ∧ (θ k.toNat).cnt = 0 ∧ (θ k.toNat).wk = r.wk k.toNat ∧ (θ k.toNat).it = r.it k.toNat ∧ (θ k.toNat).freed = false ∧ hc S.held ≤ f) (fun S k => (finA plan bl f S k).free k)
    fun S k θ θ' => LeftBut n k.toNat S (finA plan bl f S k) θ θ' ∧ (θ' k.toNat).cnt = 0
end Mine
end
theorem Mine.rs_RealB : True := by
  w_top off
  trivial
section
open PySem PySem.W PyProof.Rows PySem.Calls LSm
namespace Mine
noncomputable def RBody (w : World) (p : Program) (loose : List PySem.Str) (mean : ExcName → Option Value) (mg mb : PySem.Str → Option Value) (r : RealA) (n : Nat) (fa : Addr) (dd : Nat) (args : Int → Tok → List Value) (zs : Int → Array Value)
    (pre : S → (Nat → Th) → Int → Prop) (post : S → Int → S) (lft : S → Int → (Nat → Th) → (Nat → Th) → Prop)
    (dp un : Nat) (gd : Option (List Code)) (cn : PySem.Str) (cs : Scope) (a : Addr) (ccd : Value) (cl : List (PySem.Str × Addr)) (outer : List Env) (A₀ : Around) (base h₀ : Heap) (L : Addr) (m : PySem.Str → Option Value) (s : Shared) (Q E : Value → Shared → Prop)
    (z : Addr) (nz : Nat) (vh ve : List Value) (ne : Nat) (θ : Nat → Th) (S : S) (k : Int) (tk : Tok) : Prop :=
    Below A₀ base outer h₀ → Fr h₀ L s.heap m → (hd.heap_1 w.params).In h₀ → Top p loose mean mg mb h₀ → cs.kind = .function →
    News h₀ L s.heap (r.all w n z (zs k) nz vh ve ne θ) → BoolsAre vh S.held → IntsAre ve S.log → S.Len n → RelR r n S θ → r.Zoff n z → 0 ≤ k → k < (n : Int) → pre S θ k →
    dp + dd < recursionLimit → un + 8 * dd < cLine →
    (∀ h' tk' z' nz' vh' ve' ne' θ', Fr h₀ L h' m → News h₀ L h' (r.all w n z' #[] nz' vh' ve' ne' θ') → BoolsAre vh' (post S k).held → IntsAre ve' (post S k).log → RelR r n (post S k) θ' → r.Zoff n z' → lft S k θ θ' → (z' = z ∨ s.heap.get? z' = none) → Keep (r.adrs n z) s.heap h' → Q .none { s with heap := h', toks := tk' }) →
    wpAny (model Pr w) (ktrTop dp un gd cn cs L a ccd cl outer) (call (.ref fa) (args k tk)) Q E s

noncomputable def LetB (w : World) (p : Program) (loose : List PySem.Str) (mean : ExcName → Option Value) (mg mb : PySem.Str → Option Value) (r : RealA) (plan : List (List Int)) (bl : List Bool) (n f dd : Nat) (dp un : Nat) (gd : Option (List Code)) (cn : PySem.Str) (cs : Scope) (a : Addr) (ccd : Value) (cl : List (PySem.Str × Addr)) (outer : List Env) (A₀ : Around) (base h₀ : Heap) (L : Addr) (m : PySem.Str → Option Value) (s : Shared) (Q E : Value → Shared → Prop)
    (z : Addr) (nz : Nat) (vh ve : List Value) (ne : Nat) (θ : Nat → Th) (S : S) (k : Int) (tk : Tok) : Prop :=
  RBody w p loose mean mg mb r n r.fL dd (fun k t => [.int k t]) (fun _ => #[]) (fun S _ _ => hc S.held ≤ f) (letA plan bl f) (fun S k θ θ' => Left n S (letA plan bl f S k) θ θ') dp un gd cn cs a ccd cl outer A₀ base h₀ L m s Q E z nz vh ve ne θ S k tk
noncomputable def DestB (w : World) (p : Program) (loose : List PySem.Str) (mean : ExcName → Option Value) (mg mb : PySem.Str → Option Value) (r : RealA) (plan : List (List Int)) (bl : List Bool) (n f dd : Nat) (dp un : Nat) (gd : Option (List Code)) (cn : PySem.Str) (cs : Scope) (a : Addr) (ccd : Value) (cl : List (PySem.Str × Addr)) (outer : List Env) (A₀ : Around) (base h₀ : Heap) (L : Addr) (m : PySem.Str → Option Value) (s : Shared) (Q E : Value → Shared → Prop)
    (z : Addr) (nz : Nat) (vh ve : List Value) (ne : Nat) (θ : Nat → Th) (S : S) (k : Int) (tk : Tok) : Prop :=
  RBody w p loose mean mg mb r n r.fD dd (fun k _ => [.ref (r.x k.toNat)]) (fun _ => #[]) (fun S _ _ => S.log.length + 1 ≤ S.done.count true ∧ hc S.held ≤ f) (destA plan bl f) (fun S k θ θ' => Left n S (destA plan bl f S k) θ θ') dp un gd cn cs a ccd cl outer A₀ base h₀ L m s Q E z nz vh ve ne θ S k tk
noncomputable def FinB (w : World) (p : Program) (loose : List PySem.Str) (mean : ExcName → Option Value) (mg mb : PySem.Str → Option Value) (r : RealA) (plan : List (List Int)) (bl : List Bool) (n f dd : Nat) (dp un : Nat) (gd : Option (List Code)) (cn : PySem.Str) (cs : Scope) (a : Addr) (ccd : Value) (cl : List (PySem.Str × Addr)) (outer : List Env) (A₀ : Around) (base h₀ : Heap) (L : Addr) (m : PySem.Str → Option Value) (s : Shared) (Q E : Value → Shared → Prop)
    (z : Addr) (nz : Nat) (vh ve : List Value) (ne : Nat) (θ : Nat → Th) (S : S) (k : Int) (tk : Tok) : Prop :=
  RBody w p loose mean mg mb r n 349 dd (fun k _ => [.ref r.xc, .ref (r.x k.toNat)]) (fun _ => #[]) (fun S θ k => S.held.getD k.toNat false = false ∧ (θ k.toNat).cnt = 0 ∧ hc S.held ≤ f) (finA plan bl f)
    (fun S k θ θ' => LeftBut n k.toNat S (finA plan bl f S k) θ θ' ∧ (θ' k.toNat).cnt = 0 ∧ (θ' k.toNat).wk = (θ k.toNat).wk ∧ (θ' k.toNat).it = (θ k.toNat).it ∧ (θ' k.toNat).freed = (θ k.toNat).freed) dp un gd cn cs a ccd cl outer A₀ base h₀ L m s Q E z nz vh ve ne θ S k tk
noncomputable def SetB (w : World) (p : Program) (loose : List PySem.Str) (mean : ExcName → Option Value) (mg mb : PySem.Str → Option Value) (r : RealA) (plan : List (List Int)) (bl : List Bool) (n f dd : Nat) (dp un : Nat) (gd : Option (List Code)) (cn : PySem.Str) (cs : Scope) (a : Addr) (ccd : Value) (cl : List (PySem.Str × Addr)) (outer : List Env) (A₀ : Around) (base h₀ : Heap) (L : Addr) (m : PySem.Str → Option Value) (s : Shared) (Q E : Value → Shared → Prop)
    (z : Addr) (nz : Nat) (vh ve : List Value) (ne : Nat) (θ : Nat → Th) (S : S) (k : Int) (tk : Tok) : Prop :=
  RBody w p loose mean mg mb r n 342 dd (fun _ t => [.ref r.xc, .int 0 t]) (fun k => #[.ref (r.x k.toNat)])
    (fun S θ k => S.held.getD k.toNat false = false ∧ (θ k.toNat).cnt = 0 ∧ (θ k.toNat).wk = r.wk k.toNat ∧ (θ k.toNat).it = r.it k.toNat ∧ (θ k.toNat).freed = false ∧ hc S.held ≤ f) (fun S k => (finA plan bl f S k).free k)
    (fun S k θ θ' => LeftBut n k.toNat S (finA plan bl f S k) θ θ' ∧ (θ' k.toNat).cnt = 0) dp un gd cn cs a ccd cl outer A₀ base h₀ L m s Q E z nz vh ve ne θ S k tk
end Mine
end
theorem Mine.rs_CompC : True := by
  w_top off
  trivial
section
open PySem PySem.W PyProof.Rows PySem.Calls LSm
namespace Mine
section
variable {prog : Program} {w : World} {A : Around} {h₀ : Heap} {L : Addr} {m : PySem.Str → Option Value} {env : Env} {elt : PySem.Expr} {x : PySem.Str} {scope : Scope} {cl : List (PySem.Str × Addr)} {s : Shared} {S : List (Addr × Obj) → Prop} {P : Nat → Value → Prop} {Fin : List Value → List (Addr × Obj) → Prop} {news : List (Addr × Obj)}
/-- a comprehension whose turns leave the ledger as it is; G: what turn i gives -/
theorem comp_const {n : Nat} (G : Nat → Value → Prop)
    (turn : ∀ i v I oI C oC D m₂ ys h tk (E' : Value → Shared → Prop), i < n → P i v → LCg.NsObj oC m₂ → m₂ x = some v → Fr h₀ L h m → News h₀ L h ((I, oI) :: (C, oC) :: (D, LCg.lst ys) :: news) → LCg.Off3 I C D news → ((@Ne Nat I C) ∧ (@Ne Nat I D) ∧ (@Ne Nat C D)) →
      wpAny (model prog w) A (eval elt (compEnvC scope cl C env)) (LCg.CompEnd h₀ L m { s with heap := h, toks := tk } I oI C oC D (LCg.lst ys) S (fun y news' => news' = news ∧ G i y)) E' { s with heap := h, toks := tk })
    (fin : ∀ ys, ys.length = n → (∀ i y, ys[i]? = some y → G i y) → Fin ys news) : LCg.CompRest prog w A h₀ L m env elt x scope cl s S P Fin n 0 [] news := by
  have key : ∀ (j i : Nat) (ys : List Value), i + j = n → ys.length = i → (∀ i y, ys[i]? = some y → G i y) → LCg.CompRest prog w A h₀ L m env elt x scope cl s S P Fin j i ys news := by
    intro j
    induction j with
    | zero => intro i ys hi hl hy; exact LCg.CompRest.zero (fin ys (by omega) hy)
    | succ j ih =>
      intro i ys hi hl hy
      refine LCg.CompRest.succ ?_
      intro v I oI C oC D m₂ h tk E' hv hC hx F N off ne
      refine wpAny_mono (turn i v I oI C oC D m₂ ys h tk E' (by omega) hv hC hx F N off ne) (fun y s₂ hq => ?_) fun _ _ e => e
      obtain ⟨h', tk', nw, e, F', N', off', hS, hn, hg⟩ := hq
      rw [hn] at N' off' hS
      refine ⟨h', tk', news, e, F', N', off', hS, ih (i + 1) _ (by omega) (by simp [hl]) fun i' y' hy' => ?_⟩
      rw [List.getElem?_append] at hy'
      split at hy'
      · exact hy _ _ hy'
      · have : i' - ys.length = 0 := by
          cases q : i' - ys.length with
          | zero => rfl
          | succ q' => rw [q] at hy'; simp at hy'
        rw [this] at hy'
        obtain rfl : y = y' := by simpa using hy'
        obtain rfl : i' = i := by omega
        exact hg
  exact key n 0 [] (by omega) rfl (by simp)
end
theorem ints_of {ys : List Value} {f : Nat → Int} : ∀ {n : Nat}, ys.length = n → (∀ (i : Nat) (y : Value), ys[i]? = some y → ∃ t : Tok, y = Value.int (f i) t) → IntsAre ys ((List.range n).map f) := by
  intro n hn h
  have : ∀ (l : List Value) (o : Nat), (∀ (i : Nat) (y : Value), l[i]? = some y → ∃ t : Tok, y = Value.int (f (o + i)) t) → IntsAre l ((List.range' o l.length).map f) := by
    intro l
    induction l with
    | nil => intro o _; exact .nil
    | cons a r ih =>
      intro o hl
      obtain ⟨t, rfl⟩ := hl 0 a rfl
      rw [List.length_cons, List.range'_succ, List.map_cons]
      exact .cons (f o) t (ih (o + 1) fun i y hy => by
        have := hl (i + 1) y hy
        rw [show o + 1 + i = o + (i + 1) by omega]; exact this)
  rw [← hn, List.range_eq_range']
  exact this ys 0 (by simpa using h)
theorem nums_lay {n : Nat} (h : n ≤ 5) : PyData.layable0 (.list (((List.range n).map fun i : Nat => (i : Int) + 1).map .int)) = true := by
  have : n = 0 ∨ n = 1 ∨ n = 2 ∨ n = 3 ∨ n = 4 ∨ n = 5 := by omega
  rcases this with rfl | rfl | rfl | rfl | rfl | rfl <;> decide +kernel
theorem nums_mem {n : Nat} {k : Int} (h0 : 0 ≤ k) (h1 : k < (n : Int)) : ((k.toNat : Int) + 1) ∈ (List.range n).map fun i : Nat => (i : Int) + 1 := List.mem_map.mpr ⟨k.toNat, List.mem_range.mpr (by omega), rfl⟩
theorem nums_idx {n : Nat} (h : n ≤ 5) {k : Int} (h0 : 0 ≤ k) (h1 : k < (n : Int)) : ((((List.range n).map fun i : Nat => (i : Int) + 1).idxOf ((k.toNat : Int) + 1) : Nat) : Int) = k := by
  have hk : k = 0 ∨ k = 1 ∨ k = 2 ∨ k = 3 ∨ k = 4 := by omega
  have : n = 0 ∨ n = 1 ∨ n = 2 ∨ n = 3 ∨ n = 4 ∨ n = 5 := by omega
  rcases this with rfl | rfl | rfl | rfl | rfl | rfl <;> rcases hk with rfl | rfl | rfl | rfl | rfl <;> first | omega | decide
end Mine
end
theorem Mine.rs_CompT : True := by
  w_top off
  trivial
section
open PySem PySem.W PyProof.Rows PySem.Calls LSm
namespace Mine
section
variable {prog : Program} {w : World} {A : Around} {h₀ : Heap} {L : Addr} {m : PySem.Str → Option Value} {env : Env} {ct elt : PySem.Expr} {x : PySem.Str} {scope : Scope} {cl : List (PySem.Str × Addr)} {s : Shared} {S : List (Addr × Obj) → Prop} {P : Nat → Value → Prop} {Fin : List Value → List (Addr × Obj) → Prop} {news : List (Addr × Obj)}
/-- a comprehension with a test whose turns leave the ledger as it is -/
theorem comp_test {n : Nat} (p : Nat → Bool) (f : Nat → Int)
    (turn : ∀ i v I oI C oC D m₂ ys h tk (E' : Value → Shared → Prop), i < n → P i v → LCg.NsObj oC m₂ → m₂ x = some v → Fr h₀ L h m → News h₀ L h ((I, oI) :: (C, oC) :: (D, LCg.lst ys) :: news) → LCg.Off3 I C D news → ((@Ne Nat I C) ∧ (@Ne Nat I D) ∧ (@Ne Nat C D)) →
      wpAny (model prog w) A (isTrue ct (compEnvC scope cl C env) (eval ct (compEnvC scope cl C env))) (fun ok s' => if ok = true then
        wpAny (model prog w) A (eval elt (compEnvC scope cl C env)) (LCg.CompEnd h₀ L m { s with heap := h, toks := tk } I oI C oC D (LCg.lst ys) S (fun y news' => news' = news ∧ p i = true ∧ ∃ t : Tok, y = Value.int (f i) t)) E' s'
        else LCg.CompEnd h₀ L m { s with heap := h, toks := tk } I oI C oC D (LCg.lst ys) S (fun _ news' => news' = news ∧ p i = false) Value.none s') E' { s with heap := h, toks := tk })
    (fin : ∀ ys, IntsAre ys (((List.range n).filter p).map f) → Fin ys news) : LCt.CompRestT prog w A h₀ L m env ct elt x scope cl s S P Fin n 0 [] news := by
  have key : ∀ (j i : Nat) (ys : List Value), i + j = n → IntsAre ys (((List.range i).filter p).map f) → LCt.CompRestT prog w A h₀ L m env ct elt x scope cl s S P Fin j i ys news := by
    intro j
    induction j with
    | zero =>
      intro i ys hi hy
      obtain rfl : i = n := by omega
      exact LCt.CompRestT.zero (fin ys hy)
    | succ j ih =>
      intro i ys hi hy
      refine LCt.CompRestT.succ ?_
      intro v I oI C oC D m₂ h tk E' hv hC hx F N off ne
      refine wpAny_mono (turn i v I oI C oC D m₂ ys h tk E' (by omega) hv hC hx F N off ne) (fun ok s₂ hq => ?_) fun _ _ e => e
      cases ok with
      | true =>
        simp only [if_true] at hq ⊢
        refine wpAny_mono hq (fun y s₃ hq => ?_) fun _ _ e => e
        obtain ⟨h', tk', nw, e, F', N', off', hS, hn, hp, t, rfl⟩ := hq
        rw [hn] at N' off' hS
        refine ⟨h', tk', news, e, F', N', off', hS, ih (i + 1) _ (by omega) ?_⟩
        rw [List.range_succ, List.filter_append, List.map_append, List.filter_cons_of_pos (by simpa using hp)]
        exact IntsAre.append hy (.cons _ _ .nil)
      | false =>
        simp only [Bool.false_eq_true, if_false] at hq ⊢
        obtain ⟨h', tk', nw, e, F', N', off', hS, hn, hp⟩ := hq
        rw [hn] at N' off' hS
        refine ⟨h', tk', news, e, F', N', off', hS, ih (i + 1) _ (by omega) ?_⟩
        rw [List.range_succ, List.filter_append, List.filter_cons_of_neg (by simp [hp]), List.filter_nil, List.append_nil]
        exact hy
  exact key n 0 [] (by omega) .nil
end
end Mine
end
theorem Mine.rs_Loop2 : True := by
  w_top off
  trivial
section
open PySem PySem.W PyProof.Rows PySem.Calls LSm PyProof.V PySem.Spec
namespace Mine
noncomputable def TurnN (h₀ : Heap) (L : Addr) (m₀ : PySem.Str → Option Value) (x : PySem.Str) (P : List (Addr × Obj) → Prop) (I : Addr) (it : Obj) (s₁ : Shared) (Q : Flow → Shared → Prop) (f : Flow) (s₂ : Shared) : Prop :=
  match f with
  | .ret v => Q (.ret v) s₂
  | .brk => Q .next s₂
  | _ => ∃ h' tk v nx, s₂ = { s₁ with heap := h', toks := tk } ∧ Fr h₀ L h' (fun y => if y = x then v else m₀ y) ∧ News h₀ L h' ((I, it) :: nx) ∧ (∀ p ∈ nx, p.1 ≠ I) ∧ P nx
section
variable {prog : Program} {w : World} {A : Around} {E : Value → Shared → Prop} {s : Shared} {env : Env} {h₀ : Heap} {x : PySem.Str} {body : List Stmt} {Q : Flow → Shared → Prop}
theorem iter_listN {σ : Type} {l : Addr} {vs : List Value} {c : Nat} {m₀ : PySem.Str → Option Value} {news : List (Addr × Obj)}
    (R : List Value → σ → List (Addr × Obj) → Prop) (g : σ → Value → σ) (c₀ : σ)
    (hh : A.handled = none) (F : Fr h₀ env.locals s.heap m₀) (N : News h₀ env.locals s.heap news) (hm : (l, listOf vs.toArray c) ∈ news) (hR : R vs c₀ news)
    (hin : ∀ us a nx, R us a nx → (l, listOf vs.toArray c) ∈ nx)
    (turn : ∀ v us a nx I it h tk, R (v :: us) a nx → (∀ p ∈ nx, p.1 ≠ I) → Fr h₀ env.locals h (fun y => if y = x then some v else m₀ y) → News h₀ env.locals h ((I, it) :: nx) →
      wpAny (model prog w) A (execs body env) (TurnN h₀ env.locals m₀ x (R us (g a v)) I it { s with heap := h, toks := tk } Q) E { s with heap := h, toks := tk })
    (done : ∀ m₁ nx h tk, R [] (vs.foldl g c₀) nx → (∀ z, z ≠ x → m₁ z = m₀ z) → Fr h₀ env.locals h m₁ → News h₀ env.locals h nx → Q .next { s with heap := h, toks := tk }) :
    wpAny (model prog w) A (pyIter (.ref l)) (fun it s₂ => LoopAtV prog w A h₀ env x body Q E it s₂) E s := by
  refine iter_listUnr hh F N hm rfl rfl fun I hI => ?_
  have key : ∀ (us : List Value) (a : σ) (m₁ : PySem.Str → Option Value) (nx : List (Addr × Obj)), us.foldl g a = vs.foldl g c₀ → R us a nx → (∀ z, z ≠ x → m₁ z = m₀ z) → (∀ p ∈ nx, p.1 ≠ I) → ListRest prog w A E h₀ env x body Q s I (l, listOf vs.toArray c) us m₁ nx := by
    intro us
    induction us with
    | nil => intro a m₁ nx he hr hm' _; exact ListRest.zero fun h tk F' N' => done m₁ nx h tk (by rw [← he]; exact hr) hm' F' N'
    | cons v r ih =>
      intro a m₁ nx he hr hm' hoff
      refine ListRest.succ fun it h tk _ F' N' => ?_
      refine wpAny_mono (turn v r a nx I it h tk hr hoff (map_if hm' ▸ F') N') (fun f s₂ p => ?_) fun _ _ e => e
      have fin : (∃ h' tk' v' nx', s₂ = { ({ s with heap := h, toks := tk } : Shared) with heap := h', toks := tk' } ∧ Fr h₀ env.locals h' (fun y => if y = x then v' else m₀ y) ∧ News h₀ env.locals h' ((I, it) :: nx') ∧ (∀ p ∈ nx', p.1 ≠ I) ∧ R r (g a v) nx') →
          UnrEnd h₀ env.locals { s with heap := h, toks := tk } I it (fun m' n' => (l, listOf vs.toArray c) ∈ n' ∧ ListRest prog w A E h₀ env x body Q s I (l, listOf vs.toArray c) r m' n') s₂ := by
        rintro ⟨h', tk', v', nx', e, F2, N2, off, hr2⟩
        exact ⟨h', tk', _, nx', e, F2, N2, off, hin _ _ _ hr2, ih _ _ _ he hr2 (fun z hz => by simp only [if_neg hz]) off⟩
      cases f with
      | ret v => exact p
      | brk => exact p
      | next => exact fin p
      | cont => exact fin p
  exact key vs c₀ m₀ news rfl hR (fun _ _ => rfl) fun p hp => Nat.ne_of_lt (hI p hp)
end
theorem mid_mem {a z : Addr} {l₁ l₂ : List Addr} : a ∈ z :: (l₁ ++ l₂) ↔ a ∈ l₁ ++ z :: l₂ := by
  simp only [List.mem_cons, List.mem_append]
  constructor
  · rintro (h | h | h)
    · exact .inr (.inl h)
    · exact .inl h
    · exact .inr (.inr h)
  · rintro (h | h | h)
    · exact .inr (.inl h)
    · exact .inl h
    · exact .inr (.inr h)
theorem RealA.ex_map {r : RealA} {w : World} {n : Nat} {z : Addr} {zs : Array Value} {nz : Nat} {vh ve : List Value} {ne : Nat} {a : Addr} : a ∈ (r.ex w n z zs nz vh ve ne).map (·.1) ↔ a ∈ z :: r.adr :=
  (mid_mem (a := a) (z := z) (l₁ := [r.cc, r.cp, r.ch, r.ct, r.co, r.cL, r.ce, r.fL, r.fD, r.kL, r.kD, r.xc, r.dc, r.xh, r.dh]) (l₂ := [r.hl, r.el, r.tl, r.o.od, r.o.pl])).symm
theorem RealA.ex_adr {r : RealA} {w : World} {n : Nat} {z : Addr} {zs : Array Value} {nz : Nat} {vh ve : List Value} {ne : Nat} : ∀ q ∈ r.ex w n z zs nz vh ve ne, q.1 ∈ r.adr ∨ q.1 = z :=
  fun _ hq => (List.mem_cons.mp (RealA.ex_map.mp (List.mem_map_of_mem (f := Prod.fst) hq))).symm
theorem RealA.ths_off {w : World} {r : RealA} {plan : List (List Int)} {bl : List Bool} {n : Nat} (O : RealOk w r plan bl n) {z : Addr} (hz : r.Zoff n z) {θ : Nat → Th} : ∀ q ∈ r.ths w n θ, q.1 ∉ r.adr ∧ q.1 ≠ z := by
  intro q hq
  obtain ⟨j, hj, h | h⟩ := r.ths_cases hq
  · subst h; exact ⟨O.dadr j hj, Ne.symm (hz.2 j hj).1⟩
  · have ⟨a1, a2, a3, a4⟩ := O.roadr j hj
    have ⟨_, b1, b2, b3, b4⟩ := hz.2 j hj
    simp only [List.mem_cons, List.not_mem_nil, or_false] at h
    rcases h with rfl | rfl | rfl | rfl
    · exact ⟨a1, Ne.symm b1⟩
    · exact ⟨a2, Ne.symm b2⟩
    · exact ⟨a3, Ne.symm b3⟩
    · exact ⟨a4, Ne.symm b4⟩
/-- the whole ledger out of its open part and the rest -/
theorem refocus {w : World} {r : RealA} {plan : List (List Int)} {bl : List Bool} {n : Nat} (O : RealOk w r plan bl n) {z z' : Addr} (hz : r.Zoff n z) {θ θ' : Nat → Th} {zs zs' : Array Value} {nz nz' : Nat} {vh ve vh' ve' : List Value} {ne ne' k : Nat} {X Ex R : List (Addr × Obj)}
    {g h : Heap} {L : Addr} (hk : k < n) (NE : News g L h Ex) (NR : News g L h R) (hs : ∀ q ∈ r.all w n z zs nz vh ve ne θ, q ∈ (r.ex w n z zs nz vh ve ne ++ X) ++ R)
    (hX : ∀ q ∈ X, q = r.thD w θ k ∨ q ∈ Ex) (hex : ∀ q ∈ r.ex w n z' zs' nz' vh' ve' ne', q ∈ Ex) (hk' : r.thD w θ' k ∈ Ex) (hθ : ∀ j, j < n → j ≠ k → θ' j = θ j) :
    News g L h (r.all w n z' zs' nz' vh' ve' ne' θ') := by
  have back : ∀ q ∈ r.ths w n θ, q ≠ r.thD w θ k → h.get? q.1 = some q.2 ∧ q.1 ≠ L ∧ g.get? q.1 = none := fun q hq hne => by
    have ho := RealA.ths_off O hz q hq
    rcases List.mem_append.mp (hs q (List.mem_append_right _ hq)) with h1 | h1
    · rcases List.mem_append.mp h1 with h1 | h1
      · rcases RealA.ex_adr q h1 with e | e
        · exact absurd e ho.1
        · exact absurd e ho.2
      · rcases hX q h1 with e | e
        · exact absurd e hne
        · exact NE q e
    · exact NR q h1
  intro q hq
  rcases List.mem_append.mp hq with hq | hq
  · exact NE q (hex q hq)
  · obtain ⟨j, hj, h1 | h1⟩ := r.ths_cases hq
    · by_cases hjk : j = k
      · subst hjk; subst h1; exact NE _ hk'
      · subst h1
        have e : r.thD w θ' j = r.thD w θ j := by simp only [RealA.thD, hθ j hj hjk]
        rw [e]
        exact back _ (r.ths_d hj) fun e2 => O.dne j k hj hk hjk (congrArg Prod.fst e2)
    · refine back q (r.ths_ro hj h1) fun e2 => ?_
      have ⟨b1, b2, b3, b4⟩ := O.dro k j hk hj
      subst e2
      simp only [List.mem_cons, List.not_mem_nil, or_false] at h1
      rcases h1 with h1 | h1 | h1 | h1
      · exact b1 (congrArg Prod.fst h1)
      · exact b2 (congrArg Prod.fst h1)
      · exact b3 (congrArg Prod.fst h1)
      · exact b4 (congrArg Prod.fst h1)
theorem Left.refl {n : Nat} {A : S} {θ : Nat → Th} : Left n A A θ θ := ⟨fun _ _ _ => rfl, fun j _ h1 h2 => by rw [h1] at h2; cases h2⟩
theorem Left.trans {n : Nat} {A B C : S} {θ θ' θ'' : Nat → Th} (x : Left n A B θ θ') (y : Left n B C θ' θ'') (mono : ∀ j, A.held.getD j false = false → B.held.getD j false = false) : Left n A C θ θ'' :=
  ⟨fun j hj h => (y.1 j hj (mono j h)).trans (x.1 j hj h), fun j hj h1 h2 => by
    cases e : B.held.getD j false with
    | true => exact y.2 j hj e h2
    | false => rw [y.1 j hj e]; exact x.2 j hj h1 e⟩
/-- one turn of DESTROY's loop, by the value at hand -/
noncomputable def stepV (plan : List (List Int)) (bl : List Bool) (f : Nat) (a : S) : Value → S
  | .int q _ => letA plan bl f a q
  | _ => a
theorem stepV_fold {plan : List (List Int)} {bl : List Bool} {f : Nat} : ∀ {vs : List Value} {ns : List Int} (a : S), IntsAre vs ns → vs.foldl (stepV plan bl f) a = ns.foldl (letA plan bl f) a
  | _, _, _, .nil => rfl
  | _, _, a, .cons q t h => by rw [List.foldl_cons, List.foldl_cons]; exact stepV_fold _ h
theorem RealA.mem_adrs {w : World} {r : RealA} {n : Nat} {z : Addr} {zs : Array Value} {nz : Nat} {vh ve : List Value} {ne : Nat} {θ : Nat → Th} {q : Addr × Obj} (hq : q ∈ r.all w n z zs nz vh ve ne θ) : q.1 ∈ r.adrs n z := by
  rcases List.mem_append.mp hq with hq | hq
  · rcases RealA.ex_adr q hq with e | e
    · exact List.mem_append_left _ (List.mem_cons_of_mem _ e)
    · rw [e]; exact List.mem_append_left _ List.mem_cons_self
  · obtain ⟨j, hj, h | h⟩ := r.ths_cases hq
    · subst h; exact List.mem_append_right _ (List.mem_flatMap.mpr ⟨j, List.mem_range.mpr hj, by simp⟩)
    · refine List.mem_append_right _ (List.mem_flatMap.mpr ⟨j, List.mem_range.mpr hj, ?_⟩)
      simp only [List.mem_cons, List.not_mem_nil, or_false] at h ⊢
      rcases h with rfl | rfl | rfl | rfl <;> simp
theorem RealA.adrs_mem {w : World} {r : RealA} {n : Nat} {z : Addr} {zs : Array Value} {nz : Nat} {vh ve : List Value} {ne : Nat} {θ : Nat → Th} {a : Addr} (ha : a ∈ r.adrs n z) : ∃ q ∈ r.all w n z zs nz vh ve ne θ, q.1 = a := by
  rcases List.mem_append.mp ha with ha | ha
  · have hm : a ∈ (r.ex w n z zs nz vh ve ne).map (·.1) := RealA.ex_map.mpr ha
    obtain ⟨q, hq, e⟩ := List.mem_map.mp hm
    exact ⟨q, List.mem_append_left _ hq, e⟩
  · obtain ⟨j, hj, h⟩ := List.mem_flatMap.mp ha
    have hj := List.mem_range.mp hj
    simp only [List.mem_cons, List.not_mem_nil, or_false] at h
    rcases h with rfl | rfl | rfl | rfl | rfl
    · exact ⟨_, List.mem_append_right _ (r.ths_d hj), rfl⟩
    · exact ⟨_, List.mem_append_right _ (r.ths_ro hj (.head _)), rfl⟩
    · exact ⟨_, List.mem_append_right _ (r.ths_ro hj (.tail _ (.head _))), rfl⟩
    · exact ⟨_, List.mem_append_right _ (r.ths_ro hj (.tail _ (.tail _ (.head _)))), rfl⟩
    · exact ⟨_, List.mem_append_right _ (r.ths_ro hj (.tail _ (.tail _ (.tail _ (.head _))))), rfl⟩
theorem RealA.adrs_z {r : RealA} {n : Nat} {z z' a : Addr} (ha : a ∈ r.adrs n z) : a = z ∨ a ∈ r.adrs n z' := by
  rcases List.mem_append.mp ha with ha | ha
  · rcases List.mem_cons.mp ha with rfl | ha
    · exact .inl rfl
    · exact .inr (List.mem_append_left _ (List.mem_cons_of_mem _ ha))
  · exact .inr (List.mem_append_right _ ha)
theorem RealA.off_z {w : World} {r : RealA} {n : Nat} {z z' : Addr} {zs zs' : Array Value} {nz nz' : Nat} {vh ve vh' ve' : List Value} {ne ne' : Nat} {θ θ' : Nat → Th} {I : Addr} (h : ∀ q ∈ r.all w n z zs nz vh ve ne θ, q.1 ≠ I) (hz : z' ≠ I) :
    ∀ q ∈ r.all w n z' zs' nz' vh' ve' ne' θ', q.1 ≠ I := fun q hq e => by
  rcases RealA.adrs_z (z' := z) (RealA.mem_adrs hq) with h1 | h1
  · exact hz (h1 ▸ e)
  · obtain ⟨q', hq', e'⟩ := RealA.adrs_mem (w := w) (zs := zs) (nz := nz) (vh := vh) (ve := ve) (ne := ne) (θ := θ) h1
    exact h q' hq' (e'.trans e)
noncomputable def upd (θ : Nat → Th) (k : Nat) (t : Th) : Nat → Th := fun j => if j = k then t else θ j
theorem upd_self {θ : Nat → Th} {k : Nat} {t : Th} : upd θ k t k = t := if_pos rfl
theorem upd_ne {θ : Nat → Th} {k j : Nat} {t : Th} (h : j ≠ k) : upd θ k t j = θ j := if_neg h
theorem refocusU {w : World} {r : RealA} {plan : List (List Int)} {bl : List Bool} {n : Nat} (O : RealOk w r plan bl n) {z z' : Addr} (hz : r.Zoff n z) {θ : Nat → Th} {t : Th} {zs zs' : Array Value} {nz nz' : Nat} {vh ve vh' ve' : List Value} {ne ne' k : Nat} {Xr R : List (Addr × Obj)}
    {g h : Heap} {L : Addr} (hk : k < n) (N1 : News g L h (r.ex w n z' zs' nz' vh' ve' ne')) (N2 : News g L h [(r.d k, t.obj w.params ((k : Int) + 1) (r.bv k))]) (N3 : News g L h Xr) (NR : News g L h R)
    (hs : ∀ q ∈ r.all w n z zs nz vh ve ne θ, q ∈ (r.ex w n z zs nz vh ve ne ++ (r.thD w θ k :: Xr)) ++ R) : News g L h (r.all w n z' zs' nz' vh' ve' ne' (upd θ k t)) := by
  refine refocus (X := r.thD w θ k :: Xr) (Ex := r.ex w n z' zs' nz' vh' ve' ne' ++ ((r.d k, t.obj w.params ((k : Int) + 1) (r.bv k)) :: Xr)) O hz hk (news_app N1 fun p hp => ?_) NR hs (fun q hq => ?_) (fun q hq => List.mem_append_left _ hq) ?_ fun j _ hj => upd_ne hj
  · rcases List.mem_cons.mp hp with rfl | hp
    · exact N2 _ (.head _)
    · exact N3 p hp
  · rcases List.mem_cons.mp hq with rfl | hq
    · exact .inl rfl
    · exact .inr (List.mem_append_right _ (List.mem_cons_of_mem _ hq))
  · show (r.d k, (upd θ k t k).obj w.params ((k : Int) + 1) (r.bv k)) ∈ _
    rw [upd_self]
    exact List.mem_append_right _ (.head _)
/-- the frame's address lies above all that the things hold -/
theorem RealA.ths_lt {r : RealA} {w : World} {n : Nat} {θ θ' : Nat → Th} {L : Addr} (h : ∀ q ∈ r.ths w n θ, q.1 < L) : ∀ q ∈ r.ths w n θ', q.1 < L := fun q hq => by
  obtain ⟨j, hj, h1 | h1⟩ := r.ths_cases hq
  · subst h1; exact h (r.thD w θ j) (r.ths_d hj)
  · exact h q (r.ths_ro hj h1)
/-- open the whole ledger at place k and lay the rest into the base -/
theorem reopen {w : World} {r : RealA} {n : Nat} {z : Addr} {zs : Array Value} {nz : Nat} {vh ve : List Value} {ne k : Nat} {θ : Nat → Th} {g h : Heap} {L : Addr} {m : PySem.Str → Option Value} {Xr Y : List (Addr × Obj)}
    (F : Fr g L h m) (N : News g L h (r.all w n z zs nz vh ve ne θ)) (hk : k < n) (hXr : ∀ q ∈ Xr, q ∈ r.roL k) (hlt : ∀ q ∈ r.ths w n θ, q.1 < L) (NY : News g L h Y) (hY : ∀ p ∈ r.ths w n θ, ∀ q ∈ Y, p.1 ≠ q.1) :
    ∃ g₁ R, Reb g g₁ L R ∧ Fr g₁ L h m ∧ News g₁ L h (Y ++ (r.ex w n z zs nz vh ve ne ++ (r.thD w θ k :: Xr))) ∧ AllOff R (Y ++ (r.ex w n z zs nz vh ve ne ++ (r.thD w θ k :: Xr))) ∧
      (∀ q ∈ r.all w n z zs nz vh ve ne θ, q ∈ (r.ex w n z zs nz vh ve ne ++ (r.thD w θ k :: Xr)) ++ R) ∧ ∀ q ∈ R, q ∈ r.all w n z zs nz vh ve ne θ := by
  obtain ⟨R, N2, ho, hs, hs2⟩ := split_news (Ex := r.ex w n z zs nz vh ve ne ++ (r.thD w θ k :: Xr)) N (fun q hq => by
    rcases List.mem_append.mp hq with hq | hq
    · exact List.mem_append_left _ hq
    · rcases List.mem_cons.mp hq with rfl | hq
      · exact List.mem_append_right _ (r.ths_d hk)
      · exact List.mem_append_right _ (r.ths_ro hk (hXr q hq)))
  have hR : ∀ q ∈ R, q ∈ r.ths w n θ := fun q hq => by
    rcases List.mem_append.mp (hs2 q hq) with h1 | h1
    · exact absurd rfl (ho q hq q (List.mem_append_left _ h1))
    · exact h1
  have ho' : AllOff R (Y ++ (r.ex w n z zs nz vh ve ne ++ (r.thD w θ k :: Xr))) := fun q hq q' hq' => by
    rcases List.mem_append.mp hq' with h1 | h1
    · exact hY q (hR q hq) q' h1
    · exact ho q hq q' h1
  obtain ⟨g₁, S, F₁, N₁⟩ := rebase (Ex := Y ++ (r.ex w n z zs nz vh ve ne ++ (r.thD w θ k :: Xr))) (R := R) F (fun p hp => by
    rcases List.mem_append.mp hp with h1 | h1
    · rcases List.mem_append.mp h1 with h1 | h1
      · exact NY p h1
      · exact N2 p (List.mem_append_left _ h1)
    · exact N2 p (List.mem_append_right _ h1)) (fun p hp => hlt p (hR p hp)) ho'
  exact ⟨g₁, R, S, F₁, N₁, ho', hs, hs2⟩
theorem fresh_back {w : World} {r : RealA} {n : Nat} {z a : Addr} {zs : Array Value} {nz : Nat} {vh ve : List Value} {ne : Nat} {θ : Nat → Th} {hs g g' h : Heap} {L : Addr} {as : List Addr} (kg : ∀ b o, hs.get? b = some o → b ∉ as → g.get? b = some o) (has : ∀ b ∈ as, b ∈ r.adrs n z)
    (keep : ∀ b o, g.get? b = some o → h.get? b = some o) (N : News g' L h (r.all w n z zs nz vh ve ne θ)) (e : h.get? a = none) : hs.get? a = none := by
  cases e3 : hs.get? a with
  | none => rfl
  | some o =>
    by_cases hm : a ∈ as
    · obtain ⟨q, hq, e5⟩ := RealA.adrs_mem (w := w) (zs := zs) (nz := nz) (vh := vh) (ve := ve) (ne := ne) (θ := θ) (has a hm)
      have := (N q hq).1
      rw [e5, e] at this; cases this
    · have := keep _ _ (kg _ _ e3 hm)
      rw [e] at this; cases this
theorem relR_mark {r : RealA} {n : Nat} {S : S} {θ : Nat → Th} {k : Nat} {t : Th} (h : RelR r n S θ) (hl : S.done.length = n) (hk : k < n) (hh : S.held.getD k false = false) (hd : t.dest = true) (hf : t.freed = (θ k).freed) :
    RelR r n { S with done := S.done.set k true } (upd θ k t) := by
  refine ⟨fun j hj => ?_, fun j hj => ?_, fun j hj hon => ?_⟩
  · by_cases e : j = k
    · subst e; rw [upd_self, hd]; exact (getD_set_self (by omega)).symm
    · rw [upd_ne e, h.dest j hj]; exact (getD_set_ne e).symm
  · by_cases e : j = k
    · subst e; rw [upd_self, hf]; exact h.freed _ hj
    · rw [upd_ne e]; exact h.freed j hj
  · have e : j ≠ k := fun q => by subst q; rw [hh] at hon; cases hon
    rw [upd_ne e]; exact h.on j hj hon
theorem relR_same {r : RealA} {n : Nat} {S : S} {θ : Nat → Th} {k : Nat} {t : Th} (h : RelR r n S θ) (hh : S.held.getD k false = false) (hd : t.dest = (θ k).dest) (hf : t.freed = (θ k).freed) : RelR r n S (upd θ k t) := by
  refine ⟨fun j hj => ?_, fun j hj => ?_, fun j hj hon => ?_⟩
  · by_cases e : j = k
    · subst e; rw [upd_self, hd]; exact h.dest _ hj
    · rw [upd_ne e]; exact h.dest j hj
  · by_cases e : j = k
    · subst e; rw [upd_self, hf]; exact h.freed _ hj
    · rw [upd_ne e]; exact h.freed j hj
  · have e : j ≠ k := fun q => by subst q; rw [hh] at hon; cases hon
    rw [upd_ne e]; exact h.on j hj hon
theorem news_th (P : Params) (a : Addr) {g h : Heap} {L : Addr} {news : List (Addr × Obj)} {t1 t2 t3 t4 t5 t6 t7 t8 tn tc : Tok} {num cnt : Int} {bv : Value} {wk it : Addr} {dest freed : Bool} (N : News g L h news) (hm : (a, thingD P t1 t2 t3 t4 t5 t6 t7 t8 tn tc num cnt bv wk dest freed it) ∈ news) :
    ∃ t : Th, News g L h [(a, t.obj P num bv)] ∧ t.cnt = cnt ∧ t.dest = dest ∧ t.wk = wk ∧ t.it = it ∧ t.freed = freed :=
  ⟨⟨t1, t2, t3, t4, t5, t6, t7, t8, tn, tc, cnt, wk, dest, freed, it⟩, fun p hp => by rw [List.mem_singleton.mp hp]; exact N _ hm, rfl, rfl, rfl, rfl, rfl⟩
theorem iter_listN2 {prog : Program} {w : World} {A : Around} {E : Value → Shared → Prop} {s : Shared} {env : Env} {h₀ : Heap} {x : PySem.Str} {body : List Stmt} {Q : Flow → Shared → Prop} {σ : Type} {l : Addr} {vs : List Value} {c : Nat} {m₀ : PySem.Str → Option Value} {news : List (Addr × Obj)}
    (R : List Value → σ → List (Addr × Obj) → Prop) (g : σ → Value → σ) (c₀ : σ)
    (hh : A.handled = none) (F : Fr h₀ env.locals s.heap m₀) (N : News h₀ env.locals s.heap news) (hm : (l, listOf vs.toArray c) ∈ news) (hR : R vs c₀ news)
    (hin : ∀ us a nx, R us a nx → (l, listOf vs.toArray c) ∈ nx)
    (turn : ∀ v us a nx I it h tk, R (v :: us) a nx → (∀ p ∈ nx, p.1 ≠ I) → Fr h₀ env.locals h (fun y => if y = x then some v else m₀ y) → News h₀ env.locals h ((I, it) :: nx) →
      wpAny (model prog w) A (execs body env) (TurnN h₀ env.locals m₀ x (R us (g a v)) I it { s with heap := h, toks := tk } Q) E { s with heap := h, toks := tk })
    (done : ∀ v nx h tk, R [] (vs.foldl g c₀) nx → Fr h₀ env.locals h (fun y => if y = x then v else m₀ y) → News h₀ env.locals h nx → Q .next { s with heap := h, toks := tk }) :
    wpAny (model prog w) A (pyIter (.ref l)) (fun it s₂ => LoopAtV prog w A h₀ env x body Q E it s₂) E s :=
  iter_listN R g c₀ hh F N hm hR hin turn fun m₁ nx h tk hr hm' F' N' => done (m₁ x) nx h tk hr (by
    have e : m₁ = fun y => if y = x then m₁ x else m₀ y := by
      funext y
      by_cases q : y = x
      · rw [if_pos q, q]
      · rw [if_neg q]; exact hm' y q
    rw [← e]; exact F') N'
end Mine
end
theorem Mine.rs_Loop3 : True := by
  w_top off
  trivial
section
open PySem PySem.W PyProof.Rows PySem.Calls LSm PyProof.V PySem.Spec
namespace Mine
/-- a turn's end where the loop's name x and one more name y have turned -/
noncomputable def TurnY (h₀ : Heap) (L : Addr) (m₀ : PySem.Str → Option Value) (x y : PySem.Str) (P : List (Addr × Obj) → Prop) (I : Addr) (it : Obj) (s₁ : Shared) (Q : Flow → Shared → Prop) (f : Flow) (s₂ : Shared) : Prop :=
  match f with
  | .ret v => Q (.ret v) s₂
  | .brk => Q .next s₂
  | _ => ∃ h' tk v u nx, s₂ = { s₁ with heap := h', toks := tk } ∧ Fr h₀ L h' (fun z => if z = x then v else if z = y then u else m₀ z) ∧ News h₀ L h' ((I, it) :: nx) ∧ (∀ p ∈ nx, p.1 ≠ I) ∧ P nx
theorem map_ify {x y : PySem.Str} {m₁ m₀ : PySem.Str → Option Value} {v : Option Value} (hm : ∀ z, z ≠ x → z ≠ y → m₁ z = m₀ z) : (fun z => if z = x then v else m₁ z) = fun z => if z = x then v else if z = y then m₁ y else m₀ z := by
  funext z
  by_cases h : z = x
  · simp only [if_pos h]
  · simp only [if_neg h]
    by_cases h2 : z = y
    · rw [if_pos h2, h2]
    · rw [if_neg h2]; exact hm z h h2
theorem map_swap {x y : PySem.Str} {m₀ : PySem.Str → Option Value} {a b u : Option Value} (hxy : x ≠ y) : (fun z => if z = y then a else if z = x then b else if z = y then u else m₀ z) = fun z => if z = x then b else if z = y then a else m₀ z := by
  funext z
  by_cases h : z = x
  · subst h; simp only [if_neg hxy, if_true]
  · simp only [if_neg h]
    by_cases h2 : z = y
    · simp only [if_pos h2]
    · simp only [if_neg h2]
section
variable {prog : Program} {w : World} {A : Around} {E : Value → Shared → Prop} {s : Shared} {env : Env} {h₀ : Heap} {x y : PySem.Str} {body : List Stmt} {Q : Flow → Shared → Prop}
theorem iter_listY {σ : Type} {l : Addr} {vs : List Value} {c : Nat} {m₀ : PySem.Str → Option Value} {news : List (Addr × Obj)} (y : PySem.Str)
    (R : List Value → σ → List (Addr × Obj) → Prop) (g : σ → Value → σ) (c₀ : σ)
    (hh : A.handled = none) (F : Fr h₀ env.locals s.heap m₀) (N : News h₀ env.locals s.heap news) (hm : (l, listOf vs.toArray c) ∈ news) (hR : R vs c₀ news)
    (hin : ∀ us a nx, R us a nx → (l, listOf vs.toArray c) ∈ nx)
    (turn : ∀ v us a nx I it h tk u, R (v :: us) a nx → (∀ p ∈ nx, p.1 ≠ I) → Fr h₀ env.locals h (fun z => if z = x then some v else if z = y then u else m₀ z) → News h₀ env.locals h ((I, it) :: nx) →
      wpAny (model prog w) A (execs body env) (TurnY h₀ env.locals m₀ x y (R us (g a v)) I it { s with heap := h, toks := tk } Q) E { s with heap := h, toks := tk })
    (done : ∀ v u nx h tk, R [] (vs.foldl g c₀) nx → Fr h₀ env.locals h (fun z => if z = x then v else if z = y then u else m₀ z) → News h₀ env.locals h nx → Q .next { s with heap := h, toks := tk }) :
    wpAny (model prog w) A (pyIter (.ref l)) (fun it s₂ => LoopAtV prog w A h₀ env x body Q E it s₂) E s := by
  refine iter_listUnr hh F N hm rfl rfl fun I hI => ?_
  have key : ∀ (us : List Value) (a : σ) (m₁ : PySem.Str → Option Value) (nx : List (Addr × Obj)), us.foldl g a = vs.foldl g c₀ → R us a nx → (∀ z, z ≠ x → z ≠ y → m₁ z = m₀ z) → (∀ p ∈ nx, p.1 ≠ I) → ListRest prog w A E h₀ env x body Q s I (l, listOf vs.toArray c) us m₁ nx := by
    intro us
    induction us with
    | nil =>
      intro a m₁ nx he hr hm' _
      refine ListRest.zero fun h tk F' N' => done (m₁ x) (m₁ y) nx h tk (by rw [← he]; exact hr) ?_ N'
      have e : m₁ = fun z => if z = x then m₁ x else if z = y then m₁ y else m₀ z := by
        rw [← map_ify (v := m₁ x) hm']
        funext z
        by_cases q : z = x
        · rw [if_pos q, q]
        · rw [if_neg q]
      rw [← e]; exact F'
    | cons v r ih =>
      intro a m₁ nx he hr hm' hoff
      refine ListRest.succ fun it h tk _ F' N' => ?_
      refine wpAny_mono (turn v r a nx I it h tk (m₁ y) hr hoff (map_ify hm' ▸ F') N') (fun f s₂ p => ?_) fun _ _ e => e
      have fin : (∃ h' tk' v' u' nx', s₂ = { ({ s with heap := h, toks := tk } : Shared) with heap := h', toks := tk' } ∧ Fr h₀ env.locals h' (fun z => if z = x then v' else if z = y then u' else m₀ z) ∧ News h₀ env.locals h' ((I, it) :: nx') ∧ (∀ p ∈ nx', p.1 ≠ I) ∧ R r (g a v) nx') →
          UnrEnd h₀ env.locals { s with heap := h, toks := tk } I it (fun m' n' => (l, listOf vs.toArray c) ∈ n' ∧ ListRest prog w A E h₀ env x body Q s I (l, listOf vs.toArray c) r m' n') s₂ := by
        rintro ⟨h', tk', v', u', nx', e, F2, N2, off, hr2⟩
        exact ⟨h', tk', _, nx', e, F2, N2, off, hin _ _ _ hr2, ih _ _ _ he hr2 (fun z hz hz2 => by simp only [if_neg hz, if_neg hz2]) off⟩
      cases f with
      | ret v => exact p
      | brk => exact p
      | next => exact fin p
      | cont => exact fin p
  exact key vs c₀ m₀ news rfl hR (fun _ _ _ => rfl) fun p hp => Nat.ne_of_lt (hI p hp)
theorem iter_rangeY {σ : Type} {r : Addr} {b₀ : Int} {t₀ u₀ v₀ : Tok} {n : Nat} {m₀ : PySem.Str → Option Value} {news : List (Addr × Obj)} (y : PySem.Str)
    (R : Nat → σ → List (Addr × Obj) → Prop) (g : σ → Nat → σ) (c₀ : σ)
    (hh : A.handled = none) (hr : IsRange s.heap r 0 b₀ 1 t₀ u₀ v₀) (hsmall : Builtin.Range.small 0 b₀ 1 = true) (hn : Builtin.Range.rangeSize 0 b₀ 1 = (n : Int)) (F : Fr h₀ env.locals s.heap m₀) (N : News h₀ env.locals s.heap news) (hR : R 0 c₀ news)
    (turn : ∀ (i : Nat) t a nx I it h tk u, i < n → R i a nx → (∀ p ∈ nx, p.1 ≠ I) → Fr h₀ env.locals h (fun z => if z = x then some (.int (i : Int) t) else if z = y then u else m₀ z) → News h₀ env.locals h ((I, it) :: nx) →
      wpAny (model prog w) A (execs body env) (TurnY h₀ env.locals m₀ x y (R (i + 1) (g a i)) I it { s with heap := h, toks := tk } Q) E { s with heap := h, toks := tk })
    (done : ∀ v u nx h tk, R n ((List.range n).foldl g c₀) nx → Fr h₀ env.locals h (fun z => if z = x then v else if z = y then u else m₀ z) → News h₀ env.locals h nx → Q .next { s with heap := h, toks := tk }) :
    wpAny (model prog w) A (pyIter (.ref r)) (fun it s₂ => LoopAtV prog w A h₀ env x body Q E it s₂) E s := by
  refine iter_rangeUnr hh hr hsmall hn F N fun I hI => ?_
  have key : ∀ (k i : Nat) (a : σ) (m₁ : PySem.Str → Option Value) (nx : List (Addr × Obj)), i + k = n → a = (List.range i).foldl g c₀ → R i a nx → (∀ z, z ≠ x → z ≠ y → m₁ z = m₀ z) → (∀ p ∈ nx, p.1 ≠ I) → RangeRest prog w A E h₀ env x body Q s I 0 n k i m₁ nx := by
    intro k
    induction k with
    | zero =>
      intro i a m₁ nx hi he hr hm' _
      obtain rfl : i = n := by omega
      refine RangeRest.zero fun h tk F' N' => done (m₁ x) (m₁ y) nx h tk (by rw [← he]; exact hr) ?_ N'
      have e : m₁ = fun z => if z = x then m₁ x else if z = y then m₁ y else m₀ z := by
        rw [← map_ify (v := m₁ x) hm']
        funext z
        by_cases q : z = x
        · rw [if_pos q, q]
        · rw [if_neg q]
      rw [← e]; exact F'
    | succ k ih =>
      intro i a m₁ nx hi he hr hm' hoff
      refine RangeRest.succ fun t h tk F' N' => ?_
      rw [Int.zero_add] at F'
      refine wpAny_mono (turn i t a nx I _ h tk (m₁ y) (by omega) hr hoff (map_ify hm' ▸ F') N') (fun f s₂ p => ?_) fun _ _ e => e
      have fin : (∃ h' tk' v' u' nx', s₂ = { ({ s with heap := h, toks := tk } : Shared) with heap := h', toks := tk' } ∧ Fr h₀ env.locals h' (fun z => if z = x then v' else if z = y then u' else m₀ z) ∧ News h₀ env.locals h' ((I, itR (0 + ((i + 1 : Nat) : Int)) ((n : Int) - ((i + 1 : Nat) : Int))) :: nx') ∧ (∀ p ∈ nx', p.1 ≠ I) ∧ R (i + 1) (g a i) nx') →
          UnrEnd h₀ env.locals { s with heap := h, toks := tk } I (itR (0 + ((i + 1 : Nat) : Int)) ((n : Int) - ((i + 1 : Nat) : Int))) (RangeRest prog w A E h₀ env x body Q s I 0 n k (i + 1)) s₂ := by
        rintro ⟨h', tk', v', u', nx', e, F2, N2, off, hr2⟩
        exact ⟨h', tk', _, nx', e, F2, N2, off, ih (i + 1) _ _ _ (by omega) (by rw [List.range_succ, List.foldl_append, ← he]; rfl) hr2 (fun z hz hz2 => by simp only [if_neg hz, if_neg hz2]) off⟩
      cases f with
      | ret v => exact p
      | brk => exact p
      | next => exact fin p
      | cont => exact fin p
  exact key n 0 c₀ m₀ news (by omega) rfl hR (fun _ _ _ => rfl) fun p hp => Nat.ne_of_lt (hI p hp)
/-- a range's loop whose turns store no name but the loop's own -/
theorem iter_rangeN {σ : Type} {r : Addr} {b₀ : Int} {t₀ u₀ v₀ : Tok} {n : Nat} {m₀ : PySem.Str → Option Value} {news : List (Addr × Obj)}
    (R : Nat → σ → List (Addr × Obj) → Prop) (g : σ → Nat → σ) (c₀ : σ)
    (hh : A.handled = none) (hr : IsRange s.heap r 0 b₀ 1 t₀ u₀ v₀) (hsmall : Builtin.Range.small 0 b₀ 1 = true) (hn : Builtin.Range.rangeSize 0 b₀ 1 = (n : Int)) (F : Fr h₀ env.locals s.heap m₀) (N : News h₀ env.locals s.heap news) (hR : R 0 c₀ news)
    (turn : ∀ (i : Nat) t a nx I it h tk, i < n → R i a nx → (∀ p ∈ nx, p.1 ≠ I) → Fr h₀ env.locals h (fun z => if z = x then some (.int (i : Int) t) else m₀ z) → News h₀ env.locals h ((I, it) :: nx) →
      wpAny (model prog w) A (execs body env) (TurnN h₀ env.locals m₀ x (R (i + 1) (g a i)) I it { s with heap := h, toks := tk } Q) E { s with heap := h, toks := tk })
    (done : ∀ v nx h tk, R n ((List.range n).foldl g c₀) nx → Fr h₀ env.locals h (fun z => if z = x then v else m₀ z) → News h₀ env.locals h nx → Q .next { s with heap := h, toks := tk }) :
    wpAny (model prog w) A (pyIter (.ref r)) (fun it s₂ => LoopAtV prog w A h₀ env x body Q E it s₂) E s := by
  have same : ∀ (v u : Option Value), (fun z => if z = x then v else if z = x then u else m₀ z) = fun z => if z = x then v else m₀ z := fun v u => by
    funext z
    by_cases q : z = x
    · simp only [if_pos q]
    · simp only [if_neg q]
  refine iter_rangeY x R g c₀ hh hr hsmall hn F N hR (fun i t a nx I it h tk u hi hr hoff F' N' => ?_) fun v u nx h tk hr F' N' => done v nx h tk hr (same v u ▸ F') N'
  refine wpAny_mono (turn i t a nx I it h tk hi hr hoff (same _ u ▸ F') N') (fun f s₂ p => ?_) fun _ _ e => e
  have fin : (∃ h' tk' v' nx', s₂ = { ({ s with heap := h, toks := tk } : Shared) with heap := h', toks := tk' } ∧ Fr h₀ env.locals h' (fun z => if z = x then v' else m₀ z) ∧ News h₀ env.locals h' ((I, it) :: nx') ∧ (∀ p ∈ nx', p.1 ≠ I) ∧ R (i + 1) (g a i) nx') →
      ∃ h' tk' v' u' nx', s₂ = { ({ s with heap := h, toks := tk } : Shared) with heap := h', toks := tk' } ∧ Fr h₀ env.locals h' (fun z => if z = x then v' else if z = x then u' else m₀ z) ∧ News h₀ env.locals h' ((I, it) :: nx') ∧ (∀ p ∈ nx', p.1 ≠ I) ∧ R (i + 1) (g a i) nx' := by
    rintro ⟨h', tk', v', nx', e, F2, N2, off, hr2⟩
    exact ⟨h', tk', v', none, nx', e, (same v' none).symm ▸ F2, N2, off, hr2⟩
  cases f with
  | ret v => exact p
  | brk => exact p
  | next => exact fin p
  | cont => exact fin p
end
end Mine
end
theorem Mine.rs_o1 {w : PySem.World} {p : PySem.Program} {A : PySem.Around} {q : PySem.Pos} {e : PySem.Env} {Q : PySem.Flow → PySem.Shared → Prop} {E : PySem.Value → PySem.Shared → Prop} {s : PySem.Shared} (h : PySem.wpAny (PySem.model p w) A (PySem.exec (PySem.Stmt.Pass q) e) Q E s) : PySem.wpAny (PySem.model p w) A (PySem.exec (PySem.Stmt.Pass q) e) Q E s := by
  w_top off
  first | (walk1; exact h) | exact h
section
open PySem PySem.W PyProof.Rows PySem.Calls LSm Mine
local macro_rules | `(tactic| walk_at "call type:range") => `(tactic| ((rename Fr _ _ _ _ => F'); (rename News _ _ _ _ => N'); (with_unfolding_all refine range1_rows F' N' ?_); intro h' tk' t1' u1' v1' hR' F' N' kp'))
theorem Mine.rs_Told : True := by
  w_top off
  trivial
section
open PySem PySem.W PyProof.Rows PySem.Calls LSm
namespace Mine
noncomputable abbrev ob1 {g : Heap} {L : Addr} {h : Heap} {a : Addr} {o : Obj} {p : Addr × Obj} {l : List (Addr × Obj)} (_ : News g L h (p :: (a, o) :: l)) : Obj := o
noncomputable abbrev ob2 {g : Heap} {L : Addr} {h : Heap} {a : Addr} {o : Obj} {p p' : Addr × Obj} {l : List (Addr × Obj)} (_ : News g L h (p :: p' :: (a, o) :: l)) : Obj := o
theorem rng_small {n : Nat} (h : n ≤ 5) : PySem.Builtin.Range.small 0 (n : Int) 1 = true := by
  have : n = 0 ∨ n = 1 ∨ n = 2 ∨ n = 3 ∨ n = 4 ∨ n = 5 := by omega
  rcases this with rfl | rfl | rfl | rfl | rfl | rfl <;> rfl
theorem rng_size {n : Nat} (h : n ≤ 5) : PySem.Builtin.Range.rangeSize 0 (n : Int) 1 = ((n : Nat) : Int) := by
  have : n = 0 ∨ n = 1 ∨ n = 2 ∨ n = 3 ∨ n = 4 ∨ n = 5 := by omega
  rcases this with rfl | rfl | rfl | rfl | rfl | rfl <;> rfl
/-- which places _law_told asks -/
noncomputable def toldP (bl : List Bool) (ps : List Int) (i : Nat) : Bool := (ps.any fun x => x == (i : Int)) && bl.getD i false
noncomputable def toldStep (plan : List (List Int)) (bl : List Bool) (f : Nat) (A : S) (k : Int) : S := if !(A.done.getD k.toNat false) && !(A.freed.getD k.toNat false) then endsA plan bl f A k else A
noncomputable def toldV (plan : List (List Int)) (bl : List Bool) (f : Nat) (A : S) : Value → S
  | .int k _ => toldStep plan bl f A k
  | _ => A
theorem toldV_fold {plan : List (List Int)} {bl : List Bool} {f : Nat} : ∀ {vs : List Value} {ns : List Int} (a : S), IntsAre vs ns → vs.foldl (toldV plan bl f) a = ns.foldl (toldStep plan bl f) a
  | _, _, _, .nil => rfl
  | _, _, a, .cons q t h => by rw [List.foldl_cons, List.foldl_cons]; exact toldV_fold _ h
theorem toldStep_len {plan : List (List Int)} {bl : List Bool} {n f : Nat} {s : S} {k : Int} (hp : InPlan plan n) (h : s.Len n) (h0 : 0 ≤ k) (h1 : k < (n : Int)) : (toldStep plan bl f s k).Len n := by
  unfold toldStep
  split
  case isTrue e => exact endsA_len hp h (by simpa using (Bool.and_eq_true_iff.mp e).1) h0 h1
  case isFalse => exact h
theorem toldStep_hc {plan : List (List Int)} {bl : List Bool} {f : Nat} {s : S} {k : Int} : hc (toldStep plan bl f s k).held ≤ hc s.held := by
  unfold toldStep
  split
  case isTrue => exact hc_fold _ _
  case isFalse => exact Nat.le_refl _
noncomputable def toldA (plan : List (List Int)) (bl : List Bool) (f n : Nat) (A : S) (ps : List Int) : S := (((List.range n).filter (toldP bl ps)).map fun i : Nat => (i : Int)).foldl (toldStep plan bl f) A
namespace C_told_specO
noncomputable abbrev XX : Type := (World) × (Program) × (List PySem.Str) × (ExcName → Option Value) × (PySem.Str → Option Value) × (PySem.Str → Option Value) × (Addr) × (Addr) × (Addr) × (Addr) × (Addr) × (Addr) × (Addr) × (Obj) × (List Value) × (List Value) × (Nat) × (Nat) × (Nat) × (Nat) × (Nat) × (List (List Int)) × (Nat) × (Nat) × (Nat) × (Option (List Code)) × (PySem.Str) × (Scope) × (Addr) × (Value) × (List (PySem.Str × Addr)) × (List Env) × (Around) × (Heap) × (Heap) × (Addr) × (PySem.Str → Option Value) × (Shared) × (Value → Shared → Prop) × (Value → Shared → Prop) × (List Value) × (List Value) × (List Value) × (List Value) × (List Value) × (Nat) × (Nat)
noncomputable def StX (w : World) (p : Program) (loose : List PySem.Str) (mean : ExcName → Option Value) (mg : PySem.Str → Option Value) (mb : PySem.Str → Option Value) (od : Addr) (hl : Addr) (dl : Addr) (fl : Addr) (bll : Addr) (pl : Addr) (gl : Addr) (oo : Obj) (vb : List Value) (vp : List Value) (c1 : Nat) (c2 : Nat) (c3 : Nat) (c4 : Nat) (c5 : Nat) (plan : List (List Int)) (n : Nat) (dp : Nat) (un : Nat) (gd : Option (List Code)) (cn : PySem.Str) (cs : Scope) (a : Addr) (ccd : Value) (cl : List (PySem.Str × Addr)) (outer : List Env) (A₀ : Around) (base : Heap) (h₀ : Heap) (L : Addr) (m : PySem.Str → Option Value) (s : Shared) (Q : Value → Shared → Prop) (E : Value → Shared → Prop) (vh : List Value) (vd : List Value) (vf : List Value) (vg : List Value) (pls : List Value) (c6 : Nat) (cP : Nat) : Prop :=
  ∀ (bl : List Bool) (f : Nat) (S : S) (ps : List Int) (P : Addr) (O : OwnOk w (⟨od, hl, dl, fl, bll, pl, gl, oo, vb, vp, c1, c2, c3, c4, c5⟩ : OwnA) plan bl n) (B : Below A₀ base outer h₀) (F : Fr h₀ L s.heap m) (X : (hd.heap_1 w.params).In h₀) (T : Top p loose mean mg mb h₀) (hk : cs.kind = .function) (N : News h₀ L s.heap ((⟨od, hl, dl, fl, bll, pl, gl, oo, vb, vp, c1, c2, c3, c4, c5⟩ : OwnA).ex vh vd vf vg c6 ++ [(P, listOf pls.toArray cP)])) (hvh : BoolsAre vh S.held) (hvd : BoolsAre vd S.done) (hvf : BoolsAre vf S.freed) (hvg : IntsAre vg S.log) (hS : S.Len n) (hP : PlanAt s.heap (⟨od, hl, dl, fl, bll, pl, gl, oo, vb, vp, c1, c2, c3, c4, c5⟩ : OwnA) plan n) (hlen : (⟨od, hl, dl, fl, bll, pl, gl, oo, vb, vp, c1, c2, c3, c4, c5⟩ : OwnA).vp.length = n) (hps : IntsAre pls ps) (hin : ∀ q ∈ ps, 0 ≤ q ∧ q < (n : Int)) (hoff : P ∉ (⟨od, hl, dl, fl, bll, pl, gl, oo, vb, vp, c1, c2, c3, c4, c5⟩ : OwnA).adr) (hlp : ps.length ≤ 10) (hf : hc S.held ≤ f) (hd : dp + (2 * f + 3) < recursionLimit) (hu : un + 8 * (2 * f + 3) < cLine) (ret : ∀ h' tk' vh' vd' vf' vg' c6', Fr h₀ L h' m → News h₀ L h' ((⟨od, hl, dl, fl, bll, pl, gl, oo, vb, vp, c1, c2, c3, c4, c5⟩ : OwnA).ex vh' vd' vf' vg' c6' ++ [(P, listOf pls.toArray cP)]) → BoolsAre vh' (toldA plan bl f n S ps).held → BoolsAre vd' (toldA plan bl f n S ps).done → BoolsAre vf' (toldA plan bl f n S ps).freed → IntsAre vg' (toldA plan bl f n S ps).log → Keep (⟨od, hl, dl, fl, bll, pl, gl, oo, vb, vp, c1, c2, c3, c4, c5⟩ : OwnA).adr s.heap h' → Q .none { s with heap := h', toks := tk' }), wpAny (model Pr w) (ktrTop dp un gd cn cs L a ccd cl outer) (call (.ref 425) [.ref (⟨od, hl, dl, fl, bll, pl, gl, oo, vb, vp, c1, c2, c3, c4, c5⟩ : OwnA).od, .ref P]) Q E s
theorem neX : Nonempty XX := by
  refine ⟨?_⟩
  repeat' (first | exact default | exact aWorld 1 | constructor | intro _)
noncomputable def cX : XX := @Classical.epsilon XX neX fun x => ¬ StX (x.1) (x.2.1) (x.2.2.1) (x.2.2.2.1) (x.2.2.2.2.1) (x.2.2.2.2.2.1) (x.2.2.2.2.2.2.1) (x.2.2.2.2.2.2.2.1) (x.2.2.2.2.2.2.2.2.1) (x.2.2.2.2.2.2.2.2.2.1) (x.2.2.2.2.2.2.2.2.2.2.1) (x.2.2.2.2.2.2.2.2.2.2.2.1) (x.2.2.2.2.2.2.2.2.2.2.2.2.1) (x.2.2.2.2.2.2.2.2.2.2.2.2.2.1) (x.2.2.2.2.2.2.2.2.2.2.2.2.2.2.1) (x.2.2.2.2.2.2.2.2.2.2.2.2.2.2.2.1) (x.2.2.2.2.2.2.2.2.2.2.2.2.2.2.2.2.1) (x.2.2.2.2.2.2.2.2.2.2.2.2.2.2.2.2.2.1) (x.2.2.2.2.2.2.2.2.2.2.2.2.2.2.2.2.2.2.1) (x.2.2.2.2.2.2.2.2.2.2.2.2.2.2.2.2.2.2.2.1) (x.2.2.2.2.2.2.2.2.2.2.2.2.2.2.2.2.2.2.2.2.1) (x.2.2.2.2.2.2.2.2.2.2.2.2.2.2.2.2.2.2.2.2.2.1) (x.2.2.2.2.2.2.2.2.2.2.2.2.2.2.2.2.2.2.2.2.2.2.1) (x.2.2.2.2.2.2.2.2.2.2.2.2.2.2.2.2.2.2.2.2.2.2.2.1) (x.2.2.2.2.2.2.2.2.2.2.2.2.2.2.2.2.2.2.2.2.2.2.2.2.1) (x.2.2.2.2.2.2.2.2.2.2.2.2.2.2.2.2.2.2.2.2.2.2.2.2.2.1) (x.2.2.2.2.2.2.2.2.2.2.2.2.2.2.2.2.2.2.2.2.2.2.2.2.2.2.1) (x.2.2.2.2.2.2.2.2.2.2.2.2.2.2.2.2.2.2.2.2.2.2.2.2.2.2.2.1) (x.2.2.2.2.2.2.2.2.2.2.2.2.2.2.2.2.2.2.2.2.2.2.2.2.2.2.2.2.1) (x.2.2.2.2.2.2.2.2.2.2.2.2.2.2.2.2.2.2.2.2.2.2.2.2.2.2.2.2.2.1) (x.2.2.2.2.2.2.2.2.2.2.2.2.2.2.2.2.2.2.2.2.2.2.2.2.2.2.2.2.2.2.1) (x.2.2.2.2.2.2.2.2.2.2.2.2.2.2.2.2.2.2.2.2.2.2.2.2.2.2.2.2.2.2.2.1) (x.2.2.2.2.2.2.2.2.2.2.2.2.2.2.2.2.2.2.2.2.2.2.2.2.2.2.2.2.2.2.2.2.1) (x.2.2.2.2.2.2.2.2.2.2.2.2.2.2.2.2.2.2.2.2.2.2.2.2.2.2.2.2.2.2.2.2.2.1) (x.2.2.2.2.2.2.2.2.2.2.2.2.2.2.2.2.2.2.2.2.2.2.2.2.2.2.2.2.2.2.2.2.2.2.1) (x.2.2.2.2.2.2.2.2.2.2.2.2.2.2.2.2.2.2.2.2.2.2.2.2.2.2.2.2.2.2.2.2.2.2.2.1) (x.2.2.2.2.2.2.2.2.2.2.2.2.2.2.2.2.2.2.2.2.2.2.2.2.2.2.2.2.2.2.2.2.2.2.2.2.1) (x.2.2.2.2.2.2.2.2.2.2.2.2.2.2.2.2.2.2.2.2.2.2.2.2.2.2.2.2.2.2.2.2.2.2.2.2.2.1) (x.2.2.2.2.2.2.2.2.2.2.2.2.2.2.2.2.2.2.2.2.2.2.2.2.2.2.2.2.2.2.2.2.2.2.2.2.2.2.1) (x.2.2.2.2.2.2.2.2.2.2.2.2.2.2.2.2.2.2.2.2.2.2.2.2.2.2.2.2.2.2.2.2.2.2.2.2.2.2.2.1) (x.2.2.2.2.2.2.2.2.2.2.2.2.2.2.2.2.2.2.2.2.2.2.2.2.2.2.2.2.2.2.2.2.2.2.2.2.2.2.2.2.1) (x.2.2.2.2.2.2.2.2.2.2.2.2.2.2.2.2.2.2.2.2.2.2.2.2.2.2.2.2.2.2.2.2.2.2.2.2.2.2.2.2.2.1) (x.2.2.2.2.2.2.2.2.2.2.2.2.2.2.2.2.2.2.2.2.2.2.2.2.2.2.2.2.2.2.2.2.2.2.2.2.2.2.2.2.2.2.1) (x.2.2.2.2.2.2.2.2.2.2.2.2.2.2.2.2.2.2.2.2.2.2.2.2.2.2.2.2.2.2.2.2.2.2.2.2.2.2.2.2.2.2.2.1) (x.2.2.2.2.2.2.2.2.2.2.2.2.2.2.2.2.2.2.2.2.2.2.2.2.2.2.2.2.2.2.2.2.2.2.2.2.2.2.2.2.2.2.2.2.1) (x.2.2.2.2.2.2.2.2.2.2.2.2.2.2.2.2.2.2.2.2.2.2.2.2.2.2.2.2.2.2.2.2.2.2.2.2.2.2.2.2.2.2.2.2.2.1) (x.2.2.2.2.2.2.2.2.2.2.2.2.2.2.2.2.2.2.2.2.2.2.2.2.2.2.2.2.2.2.2.2.2.2.2.2.2.2.2.2.2.2.2.2.2.2)
@[irreducible] noncomputable def w := cX.1
@[irreducible] noncomputable def p := cX.2.1
@[irreducible] noncomputable def loose := cX.2.2.1
@[irreducible] noncomputable def mean := cX.2.2.2.1
@[irreducible] noncomputable def mg := cX.2.2.2.2.1
@[irreducible] noncomputable def mb := cX.2.2.2.2.2.1
@[irreducible] noncomputable def od := cX.2.2.2.2.2.2.1
@[irreducible] noncomputable def hl := cX.2.2.2.2.2.2.2.1
@[irreducible] noncomputable def dl := cX.2.2.2.2.2.2.2.2.1
@[irreducible] noncomputable def fl := cX.2.2.2.2.2.2.2.2.2.1
@[irreducible] noncomputable def bll := cX.2.2.2.2.2.2.2.2.2.2.1
@[irreducible] noncomputable def pl := cX.2.2.2.2.2.2.2.2.2.2.2.1
@[irreducible] noncomputable def gl := cX.2.2.2.2.2.2.2.2.2.2.2.2.1
@[irreducible] noncomputable def oo := cX.2.2.2.2.2.2.2.2.2.2.2.2.2.1
@[irreducible] noncomputable def vb := cX.2.2.2.2.2.2.2.2.2.2.2.2.2.2.1
@[irreducible] noncomputable def vp := cX.2.2.2.2.2.2.2.2.2.2.2.2.2.2.2.1
@[irreducible] noncomputable def c1 := cX.2.2.2.2.2.2.2.2.2.2.2.2.2.2.2.2.1
@[irreducible] noncomputable def c2 := cX.2.2.2.2.2.2.2.2.2.2.2.2.2.2.2.2.2.1
@[irreducible] noncomputable def c3 := cX.2.2.2.2.2.2.2.2.2.2.2.2.2.2.2.2.2.2.1
@[irreducible] noncomputable def c4 := cX.2.2.2.2.2.2.2.2.2.2.2.2.2.2.2.2.2.2.2.1
@[irreducible] noncomputable def c5 := cX.2.2.2.2.2.2.2.2.2.2.2.2.2.2.2.2.2.2.2.2.1
@[irreducible] noncomputable def plan := cX.2.2.2.2.2.2.2.2.2.2.2.2.2.2.2.2.2.2.2.2.2.1
@[irreducible] noncomputable def n := cX.2.2.2.2.2.2.2.2.2.2.2.2.2.2.2.2.2.2.2.2.2.2.1
@[irreducible] noncomputable def dp := cX.2.2.2.2.2.2.2.2.2.2.2.2.2.2.2.2.2.2.2.2.2.2.2.1
@[irreducible] noncomputable def un := cX.2.2.2.2.2.2.2.2.2.2.2.2.2.2.2.2.2.2.2.2.2.2.2.2.1
@[irreducible] noncomputable def gd := cX.2.2.2.2.2.2.2.2.2.2.2.2.2.2.2.2.2.2.2.2.2.2.2.2.2.1
@[irreducible] noncomputable def cn := cX.2.2.2.2.2.2.2.2.2.2.2.2.2.2.2.2.2.2.2.2.2.2.2.2.2.2.1
@[irreducible] noncomputable def cs := cX.2.2.2.2.2.2.2.2.2.2.2.2.2.2.2.2.2.2.2.2.2.2.2.2.2.2.2.1
@[irreducible] noncomputable def a := cX.2.2.2.2.2.2.2.2.2.2.2.2.2.2.2.2.2.2.2.2.2.2.2.2.2.2.2.2.1
@[irreducible] noncomputable def ccd := cX.2.2.2.2.2.2.2.2.2.2.2.2.2.2.2.2.2.2.2.2.2.2.2.2.2.2.2.2.2.1
@[irreducible] noncomputable def cl := cX.2.2.2.2.2.2.2.2.2.2.2.2.2.2.2.2.2.2.2.2.2.2.2.2.2.2.2.2.2.2.1
@[irreducible] noncomputable def outer := cX.2.2.2.2.2.2.2.2.2.2.2.2.2.2.2.2.2.2.2.2.2.2.2.2.2.2.2.2.2.2.2.1
@[irreducible] noncomputable def A₀ := cX.2.2.2.2.2.2.2.2.2.2.2.2.2.2.2.2.2.2.2.2.2.2.2.2.2.2.2.2.2.2.2.2.1
@[irreducible] noncomputable def base := cX.2.2.2.2.2.2.2.2.2.2.2.2.2.2.2.2.2.2.2.2.2.2.2.2.2.2.2.2.2.2.2.2.2.1
@[irreducible] noncomputable def h₀ := cX.2.2.2.2.2.2.2.2.2.2.2.2.2.2.2.2.2.2.2.2.2.2.2.2.2.2.2.2.2.2.2.2.2.2.1
@[irreducible] noncomputable def L := cX.2.2.2.2.2.2.2.2.2.2.2.2.2.2.2.2.2.2.2.2.2.2.2.2.2.2.2.2.2.2.2.2.2.2.2.1
@[irreducible] noncomputable def m := cX.2.2.2.2.2.2.2.2.2.2.2.2.2.2.2.2.2.2.2.2.2.2.2.2.2.2.2.2.2.2.2.2.2.2.2.2.1
@[irreducible] noncomputable def s := cX.2.2.2.2.2.2.2.2.2.2.2.2.2.2.2.2.2.2.2.2.2.2.2.2.2.2.2.2.2.2.2.2.2.2.2.2.2.1
@[irreducible] noncomputable def Q := cX.2.2.2.2.2.2.2.2.2.2.2.2.2.2.2.2.2.2.2.2.2.2.2.2.2.2.2.2.2.2.2.2.2.2.2.2.2.2.1
@[irreducible] noncomputable def E := cX.2.2.2.2.2.2.2.2.2.2.2.2.2.2.2.2.2.2.2.2.2.2.2.2.2.2.2.2.2.2.2.2.2.2.2.2.2.2.2.1
@[irreducible] noncomputable def vh := cX.2.2.2.2.2.2.2.2.2.2.2.2.2.2.2.2.2.2.2.2.2.2.2.2.2.2.2.2.2.2.2.2.2.2.2.2.2.2.2.2.1
@[irreducible] noncomputable def vd := cX.2.2.2.2.2.2.2.2.2.2.2.2.2.2.2.2.2.2.2.2.2.2.2.2.2.2.2.2.2.2.2.2.2.2.2.2.2.2.2.2.2.1
@[irreducible] noncomputable def vf := cX.2.2.2.2.2.2.2.2.2.2.2.2.2.2.2.2.2.2.2.2.2.2.2.2.2.2.2.2.2.2.2.2.2.2.2.2.2.2.2.2.2.2.1
@[irreducible] noncomputable def vg := cX.2.2.2.2.2.2.2.2.2.2.2.2.2.2.2.2.2.2.2.2.2.2.2.2.2.2.2.2.2.2.2.2.2.2.2.2.2.2.2.2.2.2.2.1
@[irreducible] noncomputable def pls := cX.2.2.2.2.2.2.2.2.2.2.2.2.2.2.2.2.2.2.2.2.2.2.2.2.2.2.2.2.2.2.2.2.2.2.2.2.2.2.2.2.2.2.2.2.1
@[irreducible] noncomputable def c6 := cX.2.2.2.2.2.2.2.2.2.2.2.2.2.2.2.2.2.2.2.2.2.2.2.2.2.2.2.2.2.2.2.2.2.2.2.2.2.2.2.2.2.2.2.2.2.1
@[irreducible] noncomputable def cP := cX.2.2.2.2.2.2.2.2.2.2.2.2.2.2.2.2.2.2.2.2.2.2.2.2.2.2.2.2.2.2.2.2.2.2.2.2.2.2.2.2.2.2.2.2.2.2
theorem core : StX w p loose mean mg mb od hl dl fl bll pl gl oo vb vp c1 c2 c3 c4 c5 plan n dp un gd cn cs a ccd cl outer A₀ base h₀ L m s Q E vh vd vf vg pls c6 cP := by
  unfold StX
  intro bl f S ps P O B F X T hk N hvh hvd hvf hvg hS hP hlen hps hin hoff hlp hf hd hu ret
  unfold Pr
  revert X; k_fill; intro X
  have hdict := O.dict
  have hnd := O.nd
  have hn5 := O.small
  have hvb := O.bools
  have hbl := O.blen
  dsimp only [OwnA.ex, OwnA.adr] at *
  simp only [List.nodup_cons, List.mem_cons, List.not_mem_nil, or_false, not_or, not_false_eq_true, List.nodup_nil, and_true] at hnd hoff
  dsimp only [List.cons_append, List.nil_append] at N
  obtain ⟨⟨n1, n2, n3, n4, n5, n6⟩, ⟨n7, n8, n9, n10, n11⟩, ⟨n12, n13, n14, n15⟩, ⟨n16, n17, n18⟩, ⟨n19, n20⟩, n21⟩ := hnd
  obtain ⟨o1, o2, o3, o4, o5, o6, o7⟩ := hoff
  have hl1 := hS.held
  have hl2 := hS.done
  have hl3 := hS.freed
  have hl4 := hS.log
  have hlv : vp.toArray.size = n := by rw [List.size_toArray]; exact hlen
  refine wpAny_call ?_
  k_dflt (refine' Mine.code_defKC B F X N T ?kA ?kF ?kK ?k6 ?k7 ?k8 ?k9 ?kB ?kD ?_ ?c2 ?c3 ?c4)
  case kA => exact rfl
  case kF => exact rfl
  case kK => assumption
  case k6 => k_dflt k_is
  case k7 => k_dflt k_is
  case k8 => ktr_room
  case k9 => exact BindsTo.of_eq rfl
  case kB => exact rfl
  case kD => decide +kernel
  case c2 => exact rfl
  case c3 => exact rfl
  case c4 => exact rfl
  intro g L' h₁ tk' cells kg FG F' N' Y' B' X' T' l1
  k_lt l1
  k_cells Y'
  dsimp only [List.cons_append, List.nil_append] at N'
  try dsimp only
  try k_lift B'
  have lL := Mine.lt_frames FG F'
  try k_fold
  repeat' ((fail_if_success (with_reducible show LCt.CompSrcT _ _ _ _ _ _ _ _ _ _ _ _ _ _ _)); first | (k_unfold; (try dsimp only)) | (k_here; (with_reducible show wpAny _ _ (call (Value.builtin "len") [Value.ref _]) _ _ _); (refine KM.len_K (by k_asm) (by k_dflt k_mem) (by with_reducible assumption) (by omega) ?_)) | walk1 | (dsimp only; walk1) | fail "no step")
  rename IsRange _ _ _ _ _ _ _ _ => hR
  k_dflt (refine' LCt.CompSrcT.range (n := n) ?hh ?F ?N hR (rng_small hn5) (rng_size hn5) ?zz ?_)
  case hh => rfl
  case F => k_asm
  case N => k_asm
  case zz => rw [PySem.sizeLine_eq]; omega
  intro gh
  refine comp_test (toldP bl ps) (fun i => (i : Int)) ?_ ?_
  · intro i v I oI C oC D m₂ ys h tk E' hi hRR0 hC hx F2 N2 off ne2
    refine Classical.byContradiction fun hGo => ?_
    (obtain ⟨t, rfl⟩ := hRR0) <;> (refine hGo ?_; clear hGo)
    have b0 : (0 : Int) ≤ 0 + (i : Int) := by omega
    have b1 : 0 + (i : Int) < (n : Int) := by omega
    simp only [Int.zero_add] at hx b0 b1
    simp only [LCg.Off3, and_true] at off
    (try k_fold)
    repeat' (first | (k_unfold; (try dsimp only)) | (k_here; (with_reducible show wpAny _ _ (call (Value.builtin "len") [Value.ref _]) _ _ _); (refine KM.len_K (by k_asm) (by k_dflt k_mem) (by with_reducible assumption) (by omega) ?_)) | walk1 | (dsimp only; walk1) | fail "no step")
    all_goals (show ((ps.any fun x => x == (i : Int)) && bl.getD ((i : Int)).toNat false) = _)
    all_goals first
      | ((rename List.any ps _ = true => q1); (rename List.getD bl _ _ = _ => q2); rw [q1, q2]; rfl)
      | ((rename List.any ps _ = false => q1); rw [q1]; rfl)
  · intro ys hI
    unfold LCg.FinE
    intro D' hD tkD F2 N2' o1
    obtain ⟨oA, ez⟩ : ∃ oA, oA = ob1 N2' := ⟨_, rfl⟩
    dsimp only [ob1] at ez
    subst ez
    obtain ⟨oB, ez⟩ : ∃ oB, oB = ob2 N2' := ⟨_, rfl⟩
    dsimp only [ob2] at ez
    subst ez
    have hrng : ∀ q ∈ ((List.range n).filter (toldP bl ps)).map (fun i : Nat => (i : Int)), 0 ≤ q ∧ q < (n : Int) := fun q hq => by
      obtain ⟨i, hi, rfl⟩ := List.mem_map.mp hq
      have := List.mem_range.mp (List.mem_filter.mp hi).1
      omega
    have N3 := news_sub N2' (fun q (hq : q ∈ (D', listOf ys.toArray _) :: (L' + 1 + 1, oA) :: (L' + 1, oB) :: (od, oo) :: _) => hq)
    refine iter_listN2 (vs := ys) (R := fun us S' nx => ∃ vh' vd' vf' vg' c6' ns', nx = [(D', listOf ys.toArray _), (L' + 1 + 1, oA), (L' + 1, oB), (od, oo), (hl, listOf vh'.toArray c1), (dl, listOf vd'.toArray c2), (fl, listOf vf'.toArray c3), (bll, listOf vb.toArray c4), (pl, listOf vp.toArray c5), (gl, listOf vg'.toArray c6'), (P, listOf pls.toArray cP)] ∧
      BoolsAre vh' S'.held ∧ BoolsAre vd' S'.done ∧ BoolsAre vf' S'.freed ∧ IntsAre vg' S'.log ∧ S'.Len n ∧ hc S'.held ≤ f ∧ IntsAre us ns' ∧ ∀ q ∈ ns', 0 ≤ q ∧ q < (n : Int)) (toldV plan bl f) S (by rfl) F2 N3 (.head _)
      ⟨_, _, _, _, _, _, rfl, hvh, hvd, hvf, hvg, hS, hf, hI, hrng⟩ ?_ ?_ ?_
    · rintro us a1 nx ⟨vh', vd', vf', vg', c6', ns', rfl, _⟩
      exact .head _
    · intro v us a1 nx I it h2 tk2 hRR0 hoffI F3 N4
      refine Classical.byContradiction fun hGo => ?_
      (obtain ⟨vh', vd', vf', vg', c6', ns', rfl, b1, b2, b3, b4, b5, b6, b7, b8⟩ := hRR0) <;> (refine hGo ?_; clear hGo)
      obtain ⟨q, t, ns'', rfl, rfl, b9⟩ : ∃ q t ns'', v = Value.int q t ∧ ns' = q :: ns'' ∧ IntsAre us ns'' := by cases b7 with | cons q t h => exact ⟨q, t, _, rfl, rfl, h⟩
      obtain ⟨g0, g1⟩ := b8 q List.mem_cons_self
      have q1 := b5.held
      have q2 := b5.done
      have q3 := b5.freed
      clear N3 N2' F2
      (try k_fold)
      repeat' ((fail_if_success (with_reducible show wpAny _ _ (call (Value.ref 420) _) _ _ _)); first | (k_unfold; (try dsimp only)) | (k_here; (with_reducible show wpAny _ _ (call (Value.builtin "len") [Value.ref _]) _ _ _); (refine KM.len_K (by k_asm) (by k_dflt k_mem) (by with_reducible assumption) (by omega) ?_)) | walk1 | (dsimp only; walk1) | fail "no step")
      all_goals try (
        have e9 : toldV plan bl f a1 (.int q t) = a1 := by
          show toldStep plan bl f a1 q = a1
          unfold toldStep
          first
            | ((rename List.getD a1.done _ _ = true => z1); rw [if_neg (by rw [z1]; simp)])
            | ((rename List.getD a1.freed _ _ = true => z1); rw [if_neg (by rw [z1]; simp)])
        refine ⟨h2, _, _, _, rfl, F3, N4, hoffI, vh', vd', vf', vg', c6', ns'', rfl, ?_⟩
        rw [e9]
        exact ⟨b1, b2, b3, b4, b5, b6, b9, fun q' hq' => b8 q' (List.mem_cons_of_mem _ hq')⟩)
      rename List.getD a1.done _ _ = false => z1
      rename List.getD a1.freed _ _ = false => z2
      have e9 : toldV plan bl f a1 (.int q t) = endsA plan bl f a1 q := by
        show toldStep plan bl f a1 q = _
        unfold toldStep
        rw [if_pos (by rw [z1, z2]; rfl)]
      have IH := own_ends_all (p := p) (loose := loose) (mean := mean) (mg := mg) (mb := mb) O f
      unfold OwnSpec at IH
      k_dflt (refine' IH _ _ _ _ _ _ _ _ _ _ _ _ _ _ _ _ _ vh' vd' vf' vg' c6' a1 q t ?k1 ?k2 ?k3 ?k4 ?k5 ?kN b1 b2 b3 b4 b5 ?kP g0 g1 ⟨b6, z1⟩ ?kd ?ku ?_)
      case k1 => k_asm
      case k2 => k_asm
      case k3 => k_asm
      case k4 => k_asm
      case k5 => rfl
      case kN => exact news_sub N4 (by dsimp only [OwnA.ex]; lcg_sub)
      case kP =>
        refine hP.keep fun b o' hb' e => ?_
        by_cases hbP : b = P
        · subst hbP
          have u1 := (N (b, listOf pls.toArray cP) (by k_mem)).1
          rw [u1] at e
          rw [← Option.some.inj e]
          exact (N4 (b, listOf pls.toArray cP) (by k_mem)).1
        · refine Fr.keep F3 b o' (kg b o' e ?_)
          simp only [List.map_cons, List.map_nil, List.mem_cons, List.not_mem_nil, or_false, not_or] at hb' ⊢
          exact ⟨hb'.1, hb'.2.1, hb'.2.2.1, hb'.2.2.2.1, hb'.2.2.2.2.1, hb'.2.2.2.2.2.1, hb'.2.2.2.2.2.2, hbP⟩
      case kd => ktr_room
      case ku => ktr_units
      intro h5 tk5 vh5 vd5 vf5 vg5 c65 F5 N5 d1 d2 d3 d4 kp5
      dsimp only
      repeat' (first | (k_unfold; (try dsimp only)) | (k_here; (with_reducible show wpAny _ _ (call (Value.builtin "len") [Value.ref _]) _ _ _); (refine KM.len_K (by k_asm) (by k_dflt k_mem) (by with_reducible assumption) (by omega) ?_)) | walk1 | (dsimp only; walk1) | fail "no step")
      have hoI := hoffI
      simp only [List.forall_mem_cons, List.forall_mem_nil, and_true] at hoI
      obtain ⟨i1, i2, i3, i4, i5, i6, i7, i8, i9, i10, i11⟩ := hoI
      have o1' := o1
      simp only [LCg.Off1, and_true] at o1'
      obtain ⟨j1, j2, j3, j4, j5, j6, j7, j8, j9, j10⟩ := o1'
      have hot : ∀ c : Nat, c ∈ [I, D', L' + 1 + 1, L' + 1, P] → c ∉ [od, hl, dl, fl, bll, pl, gl] := by
        intro c hc
        simp only [List.mem_cons, List.not_mem_nil, or_false, not_or] at hc ⊢
        rcases hc with hc | hc | hc | hc | hc <;> rw [hc] <;> refine ⟨?_, ?_, ?_, ?_, ?_, ?_, ?_⟩ <;> (show @Ne Nat _ _) <;> first | with_reducible assumption | exact Ne.symm (by with_reducible assumption) | omega
      have NO : News g L' h5 [(I, it), (D', listOf ys.toArray _), (L' + 1 + 1, oA), (L' + 1, oB), (P, listOf pls.toArray cP)] := Keep.news kp5 (news_sub N4 (by lcg_sub)) (fun p hp => hot p.1 (List.mem_map_of_mem (f := Prod.fst) hp))
      refine ⟨h5, _, _, [(D', listOf ys.toArray _), (L' + 1 + 1, oA), (L' + 1, oB), (od, oo), (hl, listOf vh5.toArray c1), (dl, listOf vd5.toArray c2), (fl, listOf vf5.toArray c3), (bll, listOf vb.toArray c4), (pl, listOf vp.toArray c5), (gl, listOf vg5.toArray c65), (P, listOf pls.toArray cP)], rfl, F5, news_sub (news_app NO N5) (by dsimp only [OwnA.ex]; simp only [List.cons_append, List.nil_append]; lcg_sub), ?_, vh5, vd5, vf5, vg5, c65, ns'', rfl, ?_⟩
      · simp only [List.forall_mem_cons, List.forall_mem_nil, and_true]
        exact ⟨i1, i2, i3, i4, i5, i6, i7, i8, i9, i10, i11⟩
      · rw [e9]
        exact ⟨d1, d2, d3, d4, endsA_len O.plan b5 z1 g0 g1, Nat.le_trans (hc_fold _ _) b6, b9, fun q' hq' => b8 q' (List.mem_cons_of_mem _ hq')⟩
    · intro v1 nx h4 tk4 hRR0 F4 N4
      refine Classical.byContradiction fun hGo => ?_
      (obtain ⟨vh', vd', vf', vg', c6', ns', rfl, b1, b2, b3, b4, b5, b6, b7, b8⟩ := hRR0) <;> (refine hGo ?_; clear hGo)
      have efold : ys.foldl (toldV plan bl f) S = toldA plan bl f n S ps := toldV_fold _ hI
      rw [efold] at b1 b2 b3 b4
      clear N3 N2' F2
      dsimp only
      repeat' (first | (k_unfold; (try dsimp only)) | (k_here; (with_reducible show wpAny _ _ (call (Value.builtin "len") [Value.ref _]) _ _ _); (refine KM.len_K (by k_asm) (by k_dflt k_mem) (by with_reducible assumption) (by omega) ?_)) | walk1 | (dsimp only; walk1) | fail "no step")
      rename Keep _ _ _ => kp
      rename News h₀ _ _ _ => NL
      refine ret _ _ vh' vd' vf' vg' c6' (by k_asm) (fun p hp => NL p (List.mem_cons_of_mem _ (List.mem_cons_of_mem _ (List.mem_cons_of_mem _ hp)))) b1 b2 b3 b4 fun b o' hb' e => ?_
      by_cases hbP : b = P
      · subst hbP
        have u1 := (N (b, listOf pls.toArray cP) (by k_mem)).1
        rw [u1] at e
        rw [← Option.some.inj e]
        exact (NL (b, listOf pls.toArray cP) (by k_mem)).1
      · refine kp b o' ?_ e
        simp only [List.map_cons, List.map_nil, List.mem_cons, List.not_mem_nil, or_false, not_or] at hb' ⊢
        exact ⟨hb'.1, hb'.2.1, hb'.2.2.1, hb'.2.2.2.1, hb'.2.2.2.2.1, hb'.2.2.2.2.2.1, hb'.2.2.2.2.2.2, hbP⟩
theorem all (x : XX) : StX (x.1) (x.2.1) (x.2.2.1) (x.2.2.2.1) (x.2.2.2.2.1) (x.2.2.2.2.2.1) (x.2.2.2.2.2.2.1) (x.2.2.2.2.2.2.2.1) (x.2.2.2.2.2.2.2.2.1) (x.2.2.2.2.2.2.2.2.2.1) (x.2.2.2.2.2.2.2.2.2.2.1) (x.2.2.2.2.2.2.2.2.2.2.2.1) (x.2.2.2.2.2.2.2.2.2.2.2.2.1) (x.2.2.2.2.2.2.2.2.2.2.2.2.2.1) (x.2.2.2.2.2.2.2.2.2.2.2.2.2.2.1) (x.2.2.2.2.2.2.2.2.2.2.2.2.2.2.2.1) (x.2.2.2.2.2.2.2.2.2.2.2.2.2.2.2.2.1) (x.2.2.2.2.2.2.2.2.2.2.2.2.2.2.2.2.2.1) (x.2.2.2.2.2.2.2.2.2.2.2.2.2.2.2.2.2.2.1) (x.2.2.2.2.2.2.2.2.2.2.2.2.2.2.2.2.2.2.2.1) (x.2.2.2.2.2.2.2.2.2.2.2.2.2.2.2.2.2.2.2.2.1) (x.2.2.2.2.2.2.2.2.2.2.2.2.2.2.2.2.2.2.2.2.2.1) (x.2.2.2.2.2.2.2.2.2.2.2.2.2.2.2.2.2.2.2.2.2.2.1) (x.2.2.2.2.2.2.2.2.2.2.2.2.2.2.2.2.2.2.2.2.2.2.2.1) (x.2.2.2.2.2.2.2.2.2.2.2.2.2.2.2.2.2.2.2.2.2.2.2.2.1) (x.2.2.2.2.2.2.2.2.2.2.2.2.2.2.2.2.2.2.2.2.2.2.2.2.2.1) (x.2.2.2.2.2.2.2.2.2.2.2.2.2.2.2.2.2.2.2.2.2.2.2.2.2.2.1) (x.2.2.2.2.2.2.2.2.2.2.2.2.2.2.2.2.2.2.2.2.2.2.2.2.2.2.2.1) (x.2.2.2.2.2.2.2.2.2.2.2.2.2.2.2.2.2.2.2.2.2.2.2.2.2.2.2.2.1) (x.2.2.2.2.2.2.2.2.2.2.2.2.2.2.2.2.2.2.2.2.2.2.2.2.2.2.2.2.2.1) (x.2.2.2.2.2.2.2.2.2.2.2.2.2.2.2.2.2.2.2.2.2.2.2.2.2.2.2.2.2.2.1) (x.2.2.2.2.2.2.2.2.2.2.2.2.2.2.2.2.2.2.2.2.2.2.2.2.2.2.2.2.2.2.2.1) (x.2.2.2.2.2.2.2.2.2.2.2.2.2.2.2.2.2.2.2.2.2.2.2.2.2.2.2.2.2.2.2.2.1) (x.2.2.2.2.2.2.2.2.2.2.2.2.2.2.2.2.2.2.2.2.2.2.2.2.2.2.2.2.2.2.2.2.2.1) (x.2.2.2.2.2.2.2.2.2.2.2.2.2.2.2.2.2.2.2.2.2.2.2.2.2.2.2.2.2.2.2.2.2.2.1) (x.2.2.2.2.2.2.2.2.2.2.2.2.2.2.2.2.2.2.2.2.2.2.2.2.2.2.2.2.2.2.2.2.2.2.2.1) (x.2.2.2.2.2.2.2.2.2.2.2.2.2.2.2.2.2.2.2.2.2.2.2.2.2.2.2.2.2.2.2.2.2.2.2.2.1) (x.2.2.2.2.2.2.2.2.2.2.2.2.2.2.2.2.2.2.2.2.2.2.2.2.2.2.2.2.2.2.2.2.2.2.2.2.2.1) (x.2.2.2.2.2.2.2.2.2.2.2.2.2.2.2.2.2.2.2.2.2.2.2.2.2.2.2.2.2.2.2.2.2.2.2.2.2.2.1) (x.2.2.2.2.2.2.2.2.2.2.2.2.2.2.2.2.2.2.2.2.2.2.2.2.2.2.2.2.2.2.2.2.2.2.2.2.2.2.2.1) (x.2.2.2.2.2.2.2.2.2.2.2.2.2.2.2.2.2.2.2.2.2.2.2.2.2.2.2.2.2.2.2.2.2.2.2.2.2.2.2.2.1) (x.2.2.2.2.2.2.2.2.2.2.2.2.2.2.2.2.2.2.2.2.2.2.2.2.2.2.2.2.2.2.2.2.2.2.2.2.2.2.2.2.2.1) (x.2.2.2.2.2.2.2.2.2.2.2.2.2.2.2.2.2.2.2.2.2.2.2.2.2.2.2.2.2.2.2.2.2.2.2.2.2.2.2.2.2.2.1) (x.2.2.2.2.2.2.2.2.2.2.2.2.2.2.2.2.2.2.2.2.2.2.2.2.2.2.2.2.2.2.2.2.2.2.2.2.2.2.2.2.2.2.2.1) (x.2.2.2.2.2.2.2.2.2.2.2.2.2.2.2.2.2.2.2.2.2.2.2.2.2.2.2.2.2.2.2.2.2.2.2.2.2.2.2.2.2.2.2.2.1) (x.2.2.2.2.2.2.2.2.2.2.2.2.2.2.2.2.2.2.2.2.2.2.2.2.2.2.2.2.2.2.2.2.2.2.2.2.2.2.2.2.2.2.2.2.2.1) (x.2.2.2.2.2.2.2.2.2.2.2.2.2.2.2.2.2.2.2.2.2.2.2.2.2.2.2.2.2.2.2.2.2.2.2.2.2.2.2.2.2.2.2.2.2.2) := eps_all (ne := neX) (P := fun x => StX (x.1) (x.2.1) (x.2.2.1) (x.2.2.2.1) (x.2.2.2.2.1) (x.2.2.2.2.2.1) (x.2.2.2.2.2.2.1) (x.2.2.2.2.2.2.2.1) (x.2.2.2.2.2.2.2.2.1) (x.2.2.2.2.2.2.2.2.2.1) (x.2.2.2.2.2.2.2.2.2.2.1) (x.2.2.2.2.2.2.2.2.2.2.2.1) (x.2.2.2.2.2.2.2.2.2.2.2.2.1) (x.2.2.2.2.2.2.2.2.2.2.2.2.2.1) (x.2.2.2.2.2.2.2.2.2.2.2.2.2.2.1) (x.2.2.2.2.2.2.2.2.2.2.2.2.2.2.2.1) (x.2.2.2.2.2.2.2.2.2.2.2.2.2.2.2.2.1) (x.2.2.2.2.2.2.2.2.2.2.2.2.2.2.2.2.2.1) (x.2.2.2.2.2.2.2.2.2.2.2.2.2.2.2.2.2.2.1) (x.2.2.2.2.2.2.2.2.2.2.2.2.2.2.2.2.2.2.2.1) (x.2.2.2.2.2.2.2.2.2.2.2.2.2.2.2.2.2.2.2.2.1) (x.2.2.2.2.2.2.2.2.2.2.2.2.2.2.2.2.2.2.2.2.2.1) (x.2.2.2.2.2.2.2.2.2.2.2.2.2.2.2.2.2.2.2.2.2.2.1) (x.2.2.2.2.2.2.2.2.2.2.2.2.2.2.2.2.2.2.2.2.2.2.2.1) (x.2.2.2.2.2.2.2.2.2.2.2.2.2.2.2.2.2.2.2.2.2.2.2.2.1) (x.2.2.2.2.2.2.2.2.2.2.2.2.2.2.2.2.2.2.2.2.2.2.2.2.2.1) (x.2.2.2.2.2.2.2.2.2.2.2.2.2.2.2.2.2.2.2.2.2.2.2.2.2.2.1) (x.2.2.2.2.2.2.2.2.2.2.2.2.2.2.2.2.2.2.2.2.2.2.2.2.2.2.2.1) (x.2.2.2.2.2.2.2.2.2.2.2.2.2.2.2.2.2.2.2.2.2.2.2.2.2.2.2.2.1) (x.2.2.2.2.2.2.2.2.2.2.2.2.2.2.2.2.2.2.2.2.2.2.2.2.2.2.2.2.2.1) (x.2.2.2.2.2.2.2.2.2.2.2.2.2.2.2.2.2.2.2.2.2.2.2.2.2.2.2.2.2.2.1) (x.2.2.2.2.2.2.2.2.2.2.2.2.2.2.2.2.2.2.2.2.2.2.2.2.2.2.2.2.2.2.2.1) (x.2.2.2.2.2.2.2.2.2.2.2.2.2.2.2.2.2.2.2.2.2.2.2.2.2.2.2.2.2.2.2.2.1) (x.2.2.2.2.2.2.2.2.2.2.2.2.2.2.2.2.2.2.2.2.2.2.2.2.2.2.2.2.2.2.2.2.2.1) (x.2.2.2.2.2.2.2.2.2.2.2.2.2.2.2.2.2.2.2.2.2.2.2.2.2.2.2.2.2.2.2.2.2.2.1) (x.2.2.2.2.2.2.2.2.2.2.2.2.2.2.2.2.2.2.2.2.2.2.2.2.2.2.2.2.2.2.2.2.2.2.2.1) (x.2.2.2.2.2.2.2.2.2.2.2.2.2.2.2.2.2.2.2.2.2.2.2.2.2.2.2.2.2.2.2.2.2.2.2.2.1) (x.2.2.2.2.2.2.2.2.2.2.2.2.2.2.2.2.2.2.2.2.2.2.2.2.2.2.2.2.2.2.2.2.2.2.2.2.2.1) (x.2.2.2.2.2.2.2.2.2.2.2.2.2.2.2.2.2.2.2.2.2.2.2.2.2.2.2.2.2.2.2.2.2.2.2.2.2.2.1) (x.2.2.2.2.2.2.2.2.2.2.2.2.2.2.2.2.2.2.2.2.2.2.2.2.2.2.2.2.2.2.2.2.2.2.2.2.2.2.2.1) (x.2.2.2.2.2.2.2.2.2.2.2.2.2.2.2.2.2.2.2.2.2.2.2.2.2.2.2.2.2.2.2.2.2.2.2.2.2.2.2.2.1) (x.2.2.2.2.2.2.2.2.2.2.2.2.2.2.2.2.2.2.2.2.2.2.2.2.2.2.2.2.2.2.2.2.2.2.2.2.2.2.2.2.2.1) (x.2.2.2.2.2.2.2.2.2.2.2.2.2.2.2.2.2.2.2.2.2.2.2.2.2.2.2.2.2.2.2.2.2.2.2.2.2.2.2.2.2.2.1) (x.2.2.2.2.2.2.2.2.2.2.2.2.2.2.2.2.2.2.2.2.2.2.2.2.2.2.2.2.2.2.2.2.2.2.2.2.2.2.2.2.2.2.2.1) (x.2.2.2.2.2.2.2.2.2.2.2.2.2.2.2.2.2.2.2.2.2.2.2.2.2.2.2.2.2.2.2.2.2.2.2.2.2.2.2.2.2.2.2.2.1) (x.2.2.2.2.2.2.2.2.2.2.2.2.2.2.2.2.2.2.2.2.2.2.2.2.2.2.2.2.2.2.2.2.2.2.2.2.2.2.2.2.2.2.2.2.2.1) (x.2.2.2.2.2.2.2.2.2.2.2.2.2.2.2.2.2.2.2.2.2.2.2.2.2.2.2.2.2.2.2.2.2.2.2.2.2.2.2.2.2.2.2.2.2.2)) (by with_unfolding_all exact core) x
end C_told_specO
theorem told_specO {w : World}
  {p : Program}
  {loose : List PySem.Str}
  {mean : ExcName → Option Value}
  {mg mb : PySem.Str → Option Value}
  {od hl dl fl bll pl gl : Addr}
  {oo : Obj}
  {vb vp : List Value}
  {c1 c2 c3 c4 c5 : Nat}
  {plan : List (List Int)}
  {bl : List Bool}
  {n : Nat}
  (O : OwnOk w (⟨od, hl, dl, fl, bll, pl, gl, oo, vb, vp, c1, c2, c3, c4, c5⟩ : OwnA) plan bl n)
  {f : Nat}
  {dp un : Nat}
  {gd : Option (List Code)}
  {cn : PySem.Str}
  {cs : Scope}
  {a : Addr}
  {ccd : Value}
  {cl : List (PySem.Str × Addr)}
  {outer : List Env}
  {A₀ : Around}
  {base h₀ : Heap}
  {L : Addr}
  {m : PySem.Str → Option Value}
  {s : Shared}
  {Q E : Value → Shared → Prop}
  {vh vd vf vg pls : List Value}
  {c6 cP : Nat}
  {S : S}
  {ps : List Int}
  {P : Addr}
  (B : Below A₀ base outer h₀)
  (F : Fr h₀ L s.heap m)
  (X : (hd.heap_1 w.params).In h₀)
  (T : Top p loose mean mg mb h₀)
  (hk : cs.kind = .function)
  (N : News h₀ L s.heap ((⟨od, hl, dl, fl, bll, pl, gl, oo, vb, vp, c1, c2, c3, c4, c5⟩ : OwnA).ex vh vd vf vg c6 ++ [(P, listOf pls.toArray cP)]))
  (hvh : BoolsAre vh S.held)
  (hvd : BoolsAre vd S.done)
  (hvf : BoolsAre vf S.freed)
  (hvg : IntsAre vg S.log)
  (hS : S.Len n)
  (hP : PlanAt s.heap (⟨od, hl, dl, fl, bll, pl, gl, oo, vb, vp, c1, c2, c3, c4, c5⟩ : OwnA) plan n)
  (hlen : (⟨od, hl, dl, fl, bll, pl, gl, oo, vb, vp, c1, c2, c3, c4, c5⟩ : OwnA).vp.length = n)
  (hps : IntsAre pls ps)
  (hin : ∀ q ∈ ps, 0 ≤ q ∧ q < (n : Int))
  (hoff : P ∉ (⟨od, hl, dl, fl, bll, pl, gl, oo, vb, vp, c1, c2, c3, c4, c5⟩ : OwnA).adr)
  (hlp : ps.length ≤ 10)
  (hf : hc S.held ≤ f)
  (hd : dp + (2 * f + 3) < recursionLimit)
  (hu : un + 8 * (2 * f + 3) < cLine)
  (ret : ∀ h' tk' vh' vd' vf' vg' c6', Fr h₀ L h' m → News h₀ L h' ((⟨od, hl, dl, fl, bll, pl, gl, oo, vb, vp, c1, c2, c3, c4, c5⟩ : OwnA).ex vh' vd' vf' vg' c6' ++ [(P, listOf pls.toArray cP)]) → BoolsAre vh' (toldA plan bl f n S ps).held → BoolsAre vd' (toldA plan bl f n S ps).done → BoolsAre vf' (toldA plan bl f n S ps).freed → IntsAre vg' (toldA plan bl f n S ps).log → Keep (⟨od, hl, dl, fl, bll, pl, gl, oo, vb, vp, c1, c2, c3, c4, c5⟩ : OwnA).adr s.heap h' → Q .none { s with heap := h', toks := tk' }) : wpAny (model Pr w) (ktrTop dp un gd cn cs L a ccd cl outer) (call (.ref 425) [.ref (⟨od, hl, dl, fl, bll, pl, gl, oo, vb, vp, c1, c2, c3, c4, c5⟩ : OwnA).od, .ref P]) Q E s :=
  C_told_specO.all (w, p, loose, mean, mg, mb, od, hl, dl, fl, bll, pl, gl, oo, vb, vp, c1, c2, c3, c4, c5, plan, n, dp, un, gd, cn, cs, a, ccd, cl, outer, A₀, base, h₀, L, m, s, Q, E, vh, vd, vf, vg, pls, c6, cP) bl f S ps P O B F X T hk N hvh hvd hvf hvg hS hP hlen hps hin hoff hlp hf hd hu ret
theorem told_spec {w : World} {p : Program} {loose : List PySem.Str} {mean : ExcName → Option Value} {mg mb : PySem.Str → Option Value} {o : OwnA} {plan : List (List Int)} {bl : List Bool} {n : Nat} (O : OwnOk w o plan bl n) {f : Nat}
  {dp un : Nat} {gd : Option (List Code)} {cn : PySem.Str} {cs : Scope} {a : Addr} {ccd : Value} {cl : List (PySem.Str × Addr)} {outer : List Env} {A₀ : Around} {base h₀ : Heap} {L : Addr} {m : PySem.Str → Option Value} {s : Shared} {Q E : Value → Shared → Prop}
  {vh vd vf vg pls : List Value} {c6 cP : Nat} {S : S} {ps : List Int} {P : Addr}
  (B : Below A₀ base outer h₀) (F : Fr h₀ L s.heap m) (X : (hd.heap_1 w.params).In h₀) (T : Top p loose mean mg mb h₀) (hk : cs.kind = .function)
  (N : News h₀ L s.heap (o.ex vh vd vf vg c6 ++ [(P, listOf pls.toArray cP)])) (hvh : BoolsAre vh S.held) (hvd : BoolsAre vd S.done) (hvf : BoolsAre vf S.freed) (hvg : IntsAre vg S.log) (hS : S.Len n) (hP : PlanAt s.heap o plan n)
  (hlen : o.vp.length = n) (hps : IntsAre pls ps) (hin : ∀ q ∈ ps, 0 ≤ q ∧ q < (n : Int)) (hoff : P ∉ o.adr) (hlp : ps.length ≤ 10) (hf : hc S.held ≤ f)
  (hd : dp + (2 * f + 3) < recursionLimit) (hu : un + 8 * (2 * f + 3) < cLine)
  (ret : ∀ h' tk' vh' vd' vf' vg' c6', Fr h₀ L h' m → News h₀ L h' (o.ex vh' vd' vf' vg' c6' ++ [(P, listOf pls.toArray cP)]) → BoolsAre vh' (toldA plan bl f n S ps).held → BoolsAre vd' (toldA plan bl f n S ps).done → BoolsAre vf' (toldA plan bl f n S ps).freed → IntsAre vg' (toldA plan bl f n S ps).log → Keep o.adr s.heap h' → Q .none { s with heap := h', toks := tk' }) :
  wpAny (model Pr w) (ktrTop dp un gd cn cs L a ccd cl outer) (call (.ref 425) [.ref o.od, .ref P]) Q E s := by
  obtain ⟨od, hl, dl, fl, bll, pl, gl, oo, vb, vp, c1, c2, c3, c4, c5⟩ := o
  exact told_specO O B F X T hk N hvh hvd hvf hvg hS hP hlen hps hin hoff hlp hf hd hu ret
end Mine
end
section
open PySem PySem.W PyProof.Rows PySem.Calls LSm
namespace Mine
theorem set_true_mono {l : List Bool} {k j : Nat} (h : l.getD j false = true) : (l.set k true).getD j false = true := by
  by_cases e : j = k
  · subst e
    have hl : j < l.length := by
      rcases Nat.lt_or_ge j l.length with h1 | h1
      · exact h1
      · rw [List.getD_eq_getElem?_getD, List.getElem?_eq_none_iff.mpr h1] at h; cases h
    exact getD_set_self hl
  · rw [getD_set_ne e]; exact h
/-- what is done stays done, what is freed stays freed -/
noncomputable def Grows (A B : S) : Prop := (∀ j, A.done.getD j false = true → B.done.getD j false = true) ∧ ∀ j, A.freed.getD j false = true → B.freed.getD j false = true
theorem Grows.refl {A : S} : Grows A A := ⟨fun _ h => h, fun _ h => h⟩
theorem Grows.trans {A B C : S} (x : Grows A B) (y : Grows B C) : Grows A C := ⟨fun j h => y.1 j (x.1 j h), fun j h => y.2 j (x.2 j h)⟩
theorem grows_unhold {A : S} {k : Int} : Grows A (A.unhold k) := ⟨fun _ h => h, fun _ h => h⟩
theorem grows_mark {A : S} {k : Int} : Grows A (A.mark k) := ⟨fun _ h => set_true_mono h, fun _ h => h⟩
theorem grows_free {A : S} {k : Int} : Grows A (A.free k) := ⟨fun _ h => h, fun _ h => set_true_mono h⟩
theorem grows_fold {g : S → Int → S} (hg : ∀ A k, Grows A (g A k)) : ∀ (l : List Int) (A : S), Grows A (l.foldl g A)
  | [], _ => .refl
  | _ :: r, _ => (hg _ _).trans (grows_fold hg r _)
theorem letA_grows {plan : List (List Int)} {bl : List Bool} : ∀ {f : Nat} {A : S} {k : Int}, Grows A (letA plan bl f A k)
  | 0, _, _ => .refl
  | f + 1, A, k => by
    rw [letA]
    split
    · refine Grows.trans ?_ grows_free
      split
      · exact (grows_unhold.trans grows_mark).trans (grows_fold (fun _ _ => letA_grows) _ _)
      · exact grows_unhold
    · exact .refl
theorem endsA_grows {plan : List (List Int)} {bl : List Bool} {f : Nat} {A : S} {k : Int} : Grows A (endsA plan bl f A k) := grows_mark.trans (grows_fold (fun _ _ => letA_grows) _ _)
theorem toldStep_grows {plan : List (List Int)} {bl : List Bool} {f : Nat} {A : S} {k : Int} : Grows A (toldStep plan bl f A k) := by
  unfold toldStep
  split
  · exact endsA_grows
  · exact .refl
theorem toldStep_off {plan : List (List Int)} {bl : List Bool} {f : Nat} {A : S} {k : Int} (h : A.done.getD k.toNat false = true ∨ A.freed.getD k.toNat false = true) : toldStep plan bl f A k = A := by
  unfold toldStep
  rw [if_neg]
  rcases h with h | h <;> rw [h] <;> simp
/-- which places destroy_all asks -/
noncomputable def selP (bl : List Bool) (S : S) (i : Nat) : Bool := !(S.freed.getD i false) && !(S.done.getD i false) && bl.getD i false
noncomputable def allP (bl : List Bool) (S : S) (ps : List Int) (i : Nat) : Bool := ps.any (fun x => x == (i : Int)) && selP bl S i
noncomputable def allA (plan : List (List Int)) (bl : List Bool) (f n : Nat) (A : S) (ps : List Int) : S := (((List.range n).filter (allP bl A ps)).map fun i : Nat => (i : Int)).foldl (toldStep plan bl f) A
theorem told_eq_all {plan : List (List Int)} {bl : List Bool} {f n : Nat} {A : S} {ps : List Int} : toldA plan bl f n A ps = allA plan bl f n A ps := by
  unfold toldA allA
  have key : ∀ (l : List Nat) (B : S), Grows A B → ((l.filter (toldP bl ps)).map fun i : Nat => (i : Int)).foldl (toldStep plan bl f) B = ((l.filter (allP bl A ps)).map fun i : Nat => (i : Int)).foldl (toldStep plan bl f) B := by
    intro l
    induction l with
    | nil => intro B _; rfl
    | cons i r ih =>
      intro B hB
      by_cases hp : toldP bl ps i = true
      · rw [List.filter_cons_of_pos hp, List.map_cons, List.foldl_cons]
        by_cases hs : allP bl A ps i = true
        · rw [List.filter_cons_of_pos hs, List.map_cons, List.foldl_cons]
          exact ih _ (hB.trans toldStep_grows)
        · rw [List.filter_cons_of_neg hs]
          have e : toldStep plan bl f B (i : Int) = B := by
            refine toldStep_off ?_
            show B.done.getD i false = true ∨ B.freed.getD i false = true
            unfold toldP at hp
            unfold allP selP at hs
            cases e1 : A.done.getD i false with
            | true => exact .inl (hB.1 i e1)
            | false =>
              cases e2 : A.freed.getD i false with
              | true => exact .inr (hB.2 i e2)
              | false => rw [e1, e2] at hs; exact absurd hp hs
          rw [e]
          exact ih _ hB
      · have hs : ¬ allP bl A ps i = true := fun h => hp (by
          unfold toldP
          unfold allP selP at h
          simp only [Bool.and_eq_true] at h ⊢
          exact ⟨h.1, h.2.2⟩)
        rw [List.filter_cons_of_neg hp, List.filter_cons_of_neg hs]
        exact ih _ hB
  exact key _ _ .refl
theorem eq_of_sorted : ∀ (l₁ l₂ : List Int), l₁.Pairwise (· < ·) → l₂.Pairwise (· < ·) → (∀ x, x ∈ l₁ ↔ x ∈ l₂) → l₁ = l₂
  | [], [], _, _, _ => rfl
  | [], b :: _, _, _, h => nomatch (h b).mpr (.head _)
  | a :: _, [], _, _, h => nomatch (h a).mp (.head _)
  | a :: r, b :: t, h1, h2, h => by
    have h1' := List.pairwise_cons.mp h1
    have h2' := List.pairwise_cons.mp h2
    have hab : a = b := by
      rcases List.mem_cons.mp ((h a).mp (.head _)) with e | e
      · exact e
      · rcases List.mem_cons.mp ((h b).mpr (.head _)) with e2 | e2
        · exact e2.symm
        · have := h1'.1 b e2
          have := h2'.1 a e
          omega
    subst hab
    rw [eq_of_sorted r t h1'.2 h2'.2 fun x => ⟨fun hx => ?_, fun hx => ?_⟩]
    · rcases List.mem_cons.mp ((h x).mp (.tail _ hx)) with e | e
      · have := h1'.1 x hx; omega
      · exact e
    · rcases List.mem_cons.mp ((h x).mpr (.tail _ hx)) with e | e
      · have := h2'.1 x hx; omega
      · exact e
theorem toldFold_len {plan : List (List Int)} {bl : List Bool} {n f : Nat} (hp : InPlan plan n) : ∀ (l : List Int) (A : S), (∀ q ∈ l, 0 ≤ q ∧ q < (n : Int)) → A.Len n → (l.foldl (toldStep plan bl f) A).Len n
  | [], _, _, h => h
  | q :: r, _, hq, h => toldFold_len hp r _ (fun x hx => hq x (List.mem_cons_of_mem _ hx)) (toldStep_len hp h (hq q List.mem_cons_self).1 (hq q List.mem_cons_self).2)
theorem allA_len {plan : List (List Int)} {bl : List Bool} {n f : Nat} {A : S} {ps : List Int} (hp : InPlan plan n) (h : A.Len n) : (allA plan bl f n A ps).Len n := by
  refine toldFold_len hp _ _ (fun q hq => ?_) h
  obtain ⟨i, hi, rfl⟩ := List.mem_map.mp hq
  have := List.mem_range.mp (List.mem_filter.mp hi).1
  omega
end Mine
end
theorem Mine.rs_Settle : True := by
  w_top off
  trivial
section
open PySem PySem.W PyProof.Rows PySem.Calls LSm
namespace Mine
theorem finA_len {plan : List (List Int)} {bl : List Bool} {n f : Nat} {s : S} {k : Int} (hp : InPlan plan n) (h : s.Len n) (h0 : 0 ≤ k) (h1 : k < (n : Int)) : (finA plan bl f s k).Len n := by
  unfold finA
  split
  case isTrue e => exact endsA_len hp h (by simpa using (Bool.and_eq_true_iff.mp e).2) h0 h1
  case isFalse => exact h
theorem finA_held {plan : List (List Int)} {bl : List Bool} {f j : Nat} {s : S} {k : Int} (h : s.held.getD j false = false) : (finA plan bl f s k).held.getD j false = false := by
  unfold finA
  split
  case isTrue e => exact fold_mono _ _ h
  case isFalse => exact h
theorem relR_free {r : RealA} {n : Nat} {S : S} {θ : Nat → Th} {k : Int} {t : Th} (h : RelR r n S θ) (hl : S.freed.length = n) (hk : k.toNat < n) (hh : S.held.getD k.toNat false = false) (hd : t.dest = (θ k.toNat).dest) (hf : t.freed = true) :
    RelR r n (S.free k) (upd θ k.toNat t) := by
  refine ⟨fun j hj => ?_, fun j hj => ?_, fun j hj hon => ?_⟩
  · by_cases e : j = k.toNat
    · subst e; rw [upd_self, hd]; exact h.dest _ hj
    · rw [upd_ne e]; exact h.dest j hj
  · by_cases e : j = k.toNat
    · subst e; rw [upd_self, hf]; exact (getD_set_self (by omega)).symm
    · rw [upd_ne e, h.freed j hj]; exact (getD_set_ne e).symm
  · have e : j ≠ k.toNat := fun q => by subst q; exact absurd hon (by show ¬ S.held.getD k.toNat false = true; rw [hh]; decide)
    rw [upd_ne e]; exact h.on j hj hon
noncomputable abbrev adr0 {g : Heap} {L : Addr} {h : Heap} {a : Addr} {o : Obj} {l : List (Addr × Obj)} (_ : News g L h ((a, o) :: l)) : Addr := a
noncomputable abbrev adr1 {g : Heap} {L : Addr} {h : Heap} {a : Addr} {o : Obj} {p : Addr × Obj} {l : List (Addr × Obj)} (_ : News g L h (p :: (a, o) :: l)) : Addr := a
theorem zoff_of {w : World} {r : RealA} {n : Nat} {z c : Addr} {zs : Array Value} {nz : Nat} {vh ve : List Value} {ne : Nat} {θ : Nat → Th} (hc : ∀ q ∈ r.all w n z zs nz vh ve ne θ, @Ne Nat q.1 c) : r.Zoff n c :=
  ⟨fun hm => by
    obtain ⟨q, hq, e⟩ := RealA.adrs_mem (w := w) (n := n) (z := z) (zs := zs) (nz := nz) (vh := vh) (ve := ve) (ne := ne) (θ := θ) (List.mem_append_left _ (List.mem_cons_of_mem _ hm))
    exact hc q hq e, fun j hj => ⟨Ne.symm (hc _ (List.mem_append_right _ (r.ths_d hj))), Ne.symm (hc _ (List.mem_append_right _ (r.ths_ro hj (.head _)))), Ne.symm (hc _ (List.mem_append_right _ (r.ths_ro hj (.tail _ (.head _))))), Ne.symm (hc _ (List.mem_append_right _ (r.ths_ro hj (.tail _ (.tail _ (.head _)))))), Ne.symm (hc _ (List.mem_append_right _ (r.ths_ro hj (.tail _ (.tail _ (.tail _ (.head _)))))))⟩⟩
namespace C_set_of_finB
noncomputable abbrev XX : Type := (World) × (Program) × (List PySem.Str) × (ExcName → Option Value) × (PySem.Str → Option Value) × (PySem.Str → Option Value) × (RealA) × (List (List Int)) × (List Bool) × (Nat) × (Nat) × (Nat) × (Nat) × (Nat) × (Option (List Code)) × (PySem.Str) × (Scope) × (Addr) × (Value) × (List (PySem.Str × Addr)) × (List Env) × (Around) × (Heap) × (Heap) × (Addr) × (PySem.Str → Option Value) × (Shared) × (Value → Shared → Prop) × (Value → Shared → Prop) × (Addr) × (Nat) × (List Value) × (List Value) × (Nat) × (Nat → Th) × (S) × (Int) × (Tok)
noncomputable def St (w : World) (p : Program) (loose : List PySem.Str) (mean : ExcName → Option Value) (mg : PySem.Str → Option Value) (mb : PySem.Str → Option Value) (r : RealA) (plan : List (List Int)) (bl : List Bool) (n : Nat) (f : Nat) (d : Nat) (dp : Nat) (un : Nat) (gd : Option (List Code)) (cn : PySem.Str) (cs : Scope) (a : Addr) (ccd : Value) (cl : List (PySem.Str × Addr)) (outer : List Env) (A₀ : Around) (base : Heap) (h₀ : Heap) (L : Addr) (m : PySem.Str → Option Value) (s : Shared) (Q : Value → Shared → Prop) (E : Value → Shared → Prop) (z : Addr) (nz : Nat) (vh : List Value) (ve : List Value) (ne : Nat) (θ : Nat → Th) (S : S) (k : Int) (tkk : Tok) : Prop :=
  ∀ (O : RealOk w r plan bl n) (IH : FinR w p loose mean mg mb r plan bl n f d), SetB w p loose mean mg mb r plan bl n f (d + 4) dp un gd cn cs a ccd cl outer A₀ base h₀ L m s Q E z nz vh ve ne θ S k tkk
theorem neX : Nonempty XX := by
  refine ⟨?_⟩
  repeat' (first | exact default | exact aWorld 1 | constructor | intro _)
noncomputable def cX : XX := @Classical.epsilon XX neX fun x => ¬ St (x.1) (x.2.1) (x.2.2.1) (x.2.2.2.1) (x.2.2.2.2.1) (x.2.2.2.2.2.1) (x.2.2.2.2.2.2.1) (x.2.2.2.2.2.2.2.1) (x.2.2.2.2.2.2.2.2.1) (x.2.2.2.2.2.2.2.2.2.1) (x.2.2.2.2.2.2.2.2.2.2.1) (x.2.2.2.2.2.2.2.2.2.2.2.1) (x.2.2.2.2.2.2.2.2.2.2.2.2.1) (x.2.2.2.2.2.2.2.2.2.2.2.2.2.1) (x.2.2.2.2.2.2.2.2.2.2.2.2.2.2.1) (x.2.2.2.2.2.2.2.2.2.2.2.2.2.2.2.1) (x.2.2.2.2.2.2.2.2.2.2.2.2.2.2.2.2.1) (x.2.2.2.2.2.2.2.2.2.2.2.2.2.2.2.2.2.1) (x.2.2.2.2.2.2.2.2.2.2.2.2.2.2.2.2.2.2.1) (x.2.2.2.2.2.2.2.2.2.2.2.2.2.2.2.2.2.2.2.1) (x.2.2.2.2.2.2.2.2.2.2.2.2.2.2.2.2.2.2.2.2.1) (x.2.2.2.2.2.2.2.2.2.2.2.2.2.2.2.2.2.2.2.2.2.1) (x.2.2.2.2.2.2.2.2.2.2.2.2.2.2.2.2.2.2.2.2.2.2.1) (x.2.2.2.2.2.2.2.2.2.2.2.2.2.2.2.2.2.2.2.2.2.2.2.1) (x.2.2.2.2.2.2.2.2.2.2.2.2.2.2.2.2.2.2.2.2.2.2.2.2.1) (x.2.2.2.2.2.2.2.2.2.2.2.2.2.2.2.2.2.2.2.2.2.2.2.2.2.1) (x.2.2.2.2.2.2.2.2.2.2.2.2.2.2.2.2.2.2.2.2.2.2.2.2.2.2.1) (x.2.2.2.2.2.2.2.2.2.2.2.2.2.2.2.2.2.2.2.2.2.2.2.2.2.2.2.1) (x.2.2.2.2.2.2.2.2.2.2.2.2.2.2.2.2.2.2.2.2.2.2.2.2.2.2.2.2.1) (x.2.2.2.2.2.2.2.2.2.2.2.2.2.2.2.2.2.2.2.2.2.2.2.2.2.2.2.2.2.1) (x.2.2.2.2.2.2.2.2.2.2.2.2.2.2.2.2.2.2.2.2.2.2.2.2.2.2.2.2.2.2.1) (x.2.2.2.2.2.2.2.2.2.2.2.2.2.2.2.2.2.2.2.2.2.2.2.2.2.2.2.2.2.2.2.1) (x.2.2.2.2.2.2.2.2.2.2.2.2.2.2.2.2.2.2.2.2.2.2.2.2.2.2.2.2.2.2.2.2.1) (x.2.2.2.2.2.2.2.2.2.2.2.2.2.2.2.2.2.2.2.2.2.2.2.2.2.2.2.2.2.2.2.2.2.1) (x.2.2.2.2.2.2.2.2.2.2.2.2.2.2.2.2.2.2.2.2.2.2.2.2.2.2.2.2.2.2.2.2.2.2.1) (x.2.2.2.2.2.2.2.2.2.2.2.2.2.2.2.2.2.2.2.2.2.2.2.2.2.2.2.2.2.2.2.2.2.2.2.1) (x.2.2.2.2.2.2.2.2.2.2.2.2.2.2.2.2.2.2.2.2.2.2.2.2.2.2.2.2.2.2.2.2.2.2.2.2.1) (x.2.2.2.2.2.2.2.2.2.2.2.2.2.2.2.2.2.2.2.2.2.2.2.2.2.2.2.2.2.2.2.2.2.2.2.2.2)
@[irreducible] noncomputable def w := cX.1
@[irreducible] noncomputable def p := cX.2.1
@[irreducible] noncomputable def loose := cX.2.2.1
@[irreducible] noncomputable def mean := cX.2.2.2.1
@[irreducible] noncomputable def mg := cX.2.2.2.2.1
@[irreducible] noncomputable def mb := cX.2.2.2.2.2.1
@[irreducible] noncomputable def r := cX.2.2.2.2.2.2.1
@[irreducible] noncomputable def plan := cX.2.2.2.2.2.2.2.1
@[irreducible] noncomputable def bl := cX.2.2.2.2.2.2.2.2.1
@[irreducible] noncomputable def n := cX.2.2.2.2.2.2.2.2.2.1
@[irreducible] noncomputable def f := cX.2.2.2.2.2.2.2.2.2.2.1
@[irreducible] noncomputable def d := cX.2.2.2.2.2.2.2.2.2.2.2.1
@[irreducible] noncomputable def dp := cX.2.2.2.2.2.2.2.2.2.2.2.2.1
@[irreducible] noncomputable def un := cX.2.2.2.2.2.2.2.2.2.2.2.2.2.1
@[irreducible] noncomputable def gd := cX.2.2.2.2.2.2.2.2.2.2.2.2.2.2.1
@[irreducible] noncomputable def cn := cX.2.2.2.2.2.2.2.2.2.2.2.2.2.2.2.1
@[irreducible] noncomputable def cs := cX.2.2.2.2.2.2.2.2.2.2.2.2.2.2.2.2.1
@[irreducible] noncomputable def a := cX.2.2.2.2.2.2.2.2.2.2.2.2.2.2.2.2.2.1
@[irreducible] noncomputable def ccd := cX.2.2.2.2.2.2.2.2.2.2.2.2.2.2.2.2.2.2.1
@[irreducible] noncomputable def cl := cX.2.2.2.2.2.2.2.2.2.2.2.2.2.2.2.2.2.2.2.1
@[irreducible] noncomputable def outer := cX.2.2.2.2.2.2.2.2.2.2.2.2.2.2.2.2.2.2.2.2.1
@[irreducible] noncomputable def A₀ := cX.2.2.2.2.2.2.2.2.2.2.2.2.2.2.2.2.2.2.2.2.2.1
@[irreducible] noncomputable def base := cX.2.2.2.2.2.2.2.2.2.2.2.2.2.2.2.2.2.2.2.2.2.2.1
@[irreducible] noncomputable def h₀ := cX.2.2.2.2.2.2.2.2.2.2.2.2.2.2.2.2.2.2.2.2.2.2.2.1
@[irreducible] noncomputable def L := cX.2.2.2.2.2.2.2.2.2.2.2.2.2.2.2.2.2.2.2.2.2.2.2.2.1
@[irreducible] noncomputable def m := cX.2.2.2.2.2.2.2.2.2.2.2.2.2.2.2.2.2.2.2.2.2.2.2.2.2.1
@[irreducible] noncomputable def s := cX.2.2.2.2.2.2.2.2.2.2.2.2.2.2.2.2.2.2.2.2.2.2.2.2.2.2.1
@[irreducible] noncomputable def Q := cX.2.2.2.2.2.2.2.2.2.2.2.2.2.2.2.2.2.2.2.2.2.2.2.2.2.2.2.1
@[irreducible] noncomputable def E := cX.2.2.2.2.2.2.2.2.2.2.2.2.2.2.2.2.2.2.2.2.2.2.2.2.2.2.2.2.1
@[irreducible] noncomputable def z := cX.2.2.2.2.2.2.2.2.2.2.2.2.2.2.2.2.2.2.2.2.2.2.2.2.2.2.2.2.2.1
@[irreducible] noncomputable def nz := cX.2.2.2.2.2.2.2.2.2.2.2.2.2.2.2.2.2.2.2.2.2.2.2.2.2.2.2.2.2.2.1
@[irreducible] noncomputable def vh := cX.2.2.2.2.2.2.2.2.2.2.2.2.2.2.2.2.2.2.2.2.2.2.2.2.2.2.2.2.2.2.2.1
@[irreducible] noncomputable def ve := cX.2.2.2.2.2.2.2.2.2.2.2.2.2.2.2.2.2.2.2.2.2.2.2.2.2.2.2.2.2.2.2.2.1
@[irreducible] noncomputable def ne := cX.2.2.2.2.2.2.2.2.2.2.2.2.2.2.2.2.2.2.2.2.2.2.2.2.2.2.2.2.2.2.2.2.2.1
@[irreducible] noncomputable def θ := cX.2.2.2.2.2.2.2.2.2.2.2.2.2.2.2.2.2.2.2.2.2.2.2.2.2.2.2.2.2.2.2.2.2.2.1
@[irreducible] noncomputable def S := cX.2.2.2.2.2.2.2.2.2.2.2.2.2.2.2.2.2.2.2.2.2.2.2.2.2.2.2.2.2.2.2.2.2.2.2.1
@[irreducible] noncomputable def k := cX.2.2.2.2.2.2.2.2.2.2.2.2.2.2.2.2.2.2.2.2.2.2.2.2.2.2.2.2.2.2.2.2.2.2.2.2.1
@[irreducible] noncomputable def tkk := cX.2.2.2.2.2.2.2.2.2.2.2.2.2.2.2.2.2.2.2.2.2.2.2.2.2.2.2.2.2.2.2.2.2.2.2.2.2
theorem core : St w p loose mean mg mb r plan bl n f d dp un gd cn cs a ccd cl outer A₀ base h₀ L m s Q E z nz vh ve ne θ S k tkk := by
  unfold St
  intro O IH
  unfold SetB RBody Pr
  intro B F X T hk N hvh hve hS hR hz h0 h1 hpre hd hu ret
  revert X; k_fill; intro X
  refine Classical.byContradiction fun hGo => ?_
  have hp : k.toNat < n := by omega
  have hEx : ∀ q ∈ r.ex w n z #[.ref (r.x k.toNat)] nz vh ve ne ++ (r.thD w θ k.toNat :: [(r.x k.toNat, instObj 78 (r.d k.toNat)), (r.wk k.toNat, listOf #[] (r.nw k.toNat)), (r.it k.toNat, listOf #[] (r.ni k.toNat))]), q ∈ r.all w n z #[.ref (r.x k.toNat)] nz vh ve ne θ := (fun q hq => by
    rcases List.mem_append.mp hq with hq | hq
    · exact List.mem_append_left _ hq
    · replace hq := mem_ors hq
      rcases hq with rfl | rfl | rfl | rfl
      · exact List.mem_append_right _ (r.ths_d hp)
      · exact List.mem_append_right _ (r.ths_ro hp (.head _))
      · exact List.mem_append_right _ (r.ths_ro hp (.tail _ (.head _)))
      · exact List.mem_append_right _ (r.ths_ro hp (.tail _ (.tail _ (.head _)))))
  obtain ⟨R, N2, hoff, hs, hs2⟩ := split_news (Ex := r.ex w n z #[.ref (r.x k.toNat)] nz vh ve ne ++ (r.thD w θ k.toNat :: [(r.x k.toNat, instObj 78 (r.d k.toNat)), (r.wk k.toNat, listOf #[] (r.nw k.toNat)), (r.it k.toNat, listOf #[] (r.ni k.toNat))])) N hEx
  have hAdr : ∀ b ∈ ((r.ex w n z #[.ref (r.x k.toNat)] nz vh ve ne ++ (r.thD w θ k.toNat :: [(r.x k.toNat, instObj 78 (r.d k.toNat)), (r.wk k.toNat, listOf #[] (r.nw k.toNat)), (r.it k.toNat, listOf #[] (r.ni k.toNat))])) ++ R).map (·.1), b ∈ r.adrs n z := fun b hb => by
    obtain ⟨q', hq', e4⟩ := List.mem_map.mp hb
    rw [← e4]
    exact RealA.mem_adrs ((List.mem_append.mp hq').elim (hEx q') (hs2 q'))
  obtain ⟨hheld, hcnt, hwk, hitt, hfr, hhc⟩ := hpre
  have hdst := hR.dest k.toNat hp
  refine hGo ?_; clear hGo
  refine wpAny_call ?_
  k_dflt (refine' code_defG2 B F N2 hoff X T ?kA ?kF ?kK ?ko ?kc ?kr ?kb ?kl ?_ ?c1 ?c2 ?c3 ?c4)
  case kA => exact rfl
  case kF => exact rfl
  case kK => assumption
  case ko => k_dflt k_is
  case kc => k_dflt k_is
  case kr => ktr_room
  case kb => exact BindsTo.of_eq rfl
  case kl => exact locs rfl
  case c1 => exact rfl
  case c2 => exact rfl
  case c3 => exact rfl
  case c4 => decide
  intro g g₁ L' h₁ hReb ⟨GB, GX, GT, kg⟩ FG F' N' B' X' T' l1 l2 lL
  refine Classical.byContradiction fun hGo => ?_
  have hlt : ∀ q ∈ r.ths w n θ, q.1 < L' := fun q hq => by
    rcases List.mem_append.mp (hs q (List.mem_append_right _ hq)) with h | h
    · exact l1 q h
    · exact l2 q h
  obtain ⟨y1, y2⟩ := O.bless k.toNat hp
  have hne1 : @Ne Nat (r.x k.toNat) (r.d k.toNat) := Ne.symm (O.dro _ _ hp hp).1
  have hnd : ∀ b ∈ r.adr, @Ne Nat b (r.d k.toNat) := fun b hb e => O.dadr _ hp (e ▸ hb)
  simp only [List.forall_mem_cons, List.forall_mem_nil, and_true] at hnd
  (repeat ((have hq9 := And.left hnd); (replace hnd := And.right hnd)))
  have hne2 : @Ne Nat z (r.d k.toNat) := (hz.2 _ hp).1
  have hne3 : @Ne Nat (r.wk k.toNat) (r.d k.toNat) := Ne.symm (O.dro _ _ hp hp).2.1
  have hne4 : @Ne Nat (r.it k.toNat) (r.d k.toNat) := Ne.symm (O.dro _ _ hp hp).2.2.1
  obtain ⟨w1, w2, w3, w4, w5, w6, w7, w8, w9, w10, w11, w12, w13, w14, w15, w16, w17, w18, w19⟩ := RealA.dh_ne O.nd
  have w20 : @Ne Nat z r.dh := not_mem_ne hz.1 (by first | k_mem | simp)
  have w21 : @Ne Nat (r.d k.toNat) r.dh := not_mem_ne (O.dadr _ hp) (by first | k_mem | simp)
  have w22 : @Ne Nat (r.x k.toNat) r.dh := not_mem_ne (O.roadr _ hp).1 (by first | k_mem | simp)
  have w23 : @Ne Nat (r.wk k.toNat) r.dh := not_mem_ne (O.roadr _ hp).2.1 (by first | k_mem | simp)
  have w24 : @Ne Nat (r.it k.toNat) r.dh := not_mem_ne (O.roadr _ hp).2.2.1 (by first | k_mem | simp)
  have N'0 := N'
  have l1' := l1
  dsimp only [RealA.ex, RealA.thD, RealA.all, Th.obj] at N' l1
  dsimp only [List.cons_append, List.nil_append] at N' l1
  k_lt l1
  simp only [hcnt, hwk, hitt, hfr] at N'
  refine hGo ?_; clear hGo
  repeat' ((fail_if_success (with_reducible show wpAny _ _ (exec (Stmt.For _ _ _ _ _) _) _ _ _)); first | (k_unfold; (try dsimp only)) | (k_here; k_dflt (refine whl_start 100 ?_)) | (k_here; (with_reducible show wpAny _ _ (call (Value.ref 267) [Value.ref _]) _ _ _); k_dflt (refine' Mine.in_order_spec ?y1B ?y1F ?y1X ?y1N ?y1m1 ?y1m2 ?y1m3 ?y1T ?y1hk ?y1hd ?y1hu ?_; (case y1F => k_asm); (case y1N => k_asm); (case y1B => k_asm); (case y1X => k_asm); (case y1T => k_asm); (case y1m1 => k_mem); (case y1m2 => k_mem); (case y1m3 => k_mem); (case y1hk => rfl); (case y1hd => ktr_room); (case y1hu => ktr_units)); intro D' h' tk' n' F' N' o1; (try simp only [List.forall_mem_cons, and_true] at o1); (repeat ((have hq9 := And.left o1); (replace o1 := And.right o1)))) | walk1 | (dsimp only; walk1) | fail "no step")
  refine Classical.byContradiction fun hGo => ?_
  rename News _ _ _ _ => N9
  rename Fr _ _ _ _ => F9
  obtain ⟨z2, ez⟩ : ∃ z2, z2 = adr0 N9 := ⟨_, rfl⟩
  dsimp only [adr0] at ez
  subst ez
  obtain ⟨D, ez⟩ : ∃ D, D = adr1 N9 := ⟨_, rfl⟩
  dsimp only [adr1] at ez
  subst ez
  have offz : ∀ q ∈ r.ex w n z #[.ref (r.x k.toNat)] nz vh ve ne ++ (r.thD w θ k.toNat :: [(r.x k.toNat, instObj 78 (r.d k.toNat)), (r.wk k.toNat, listOf #[] (r.nw k.toNat)), (r.it k.toNat, listOf #[] (r.ni k.toNat))]), @Ne Nat q.1 z2 := by dsimp only [RealA.ex, RealA.thD]; simp only [List.cons_append, List.nil_append, List.forall_mem_cons]; (repeat' apply And.intro) <;> first | with_reducible assumption | exact Ne.symm (by with_reducible assumption) | exact (fun _ h => nomatch h) | omega
  have offD : ∀ q ∈ r.ex w n z #[.ref (r.x k.toNat)] nz vh ve ne ++ (r.thD w θ k.toNat :: [(r.x k.toNat, instObj 78 (r.d k.toNat)), (r.wk k.toNat, listOf #[] (r.nw k.toNat)), (r.it k.toNat, listOf #[] (r.ni k.toNat))]), @Ne Nat q.1 D := by dsimp only [RealA.ex, RealA.thD]; simp only [List.cons_append, List.nil_append, List.forall_mem_cons]; (repeat' apply And.intro) <;> first | with_reducible assumption | exact Ne.symm (by with_reducible assumption) | exact (fun _ h => nomatch h) | omega
  have hDz : @Ne Nat z2 D := by first | assumption | exact Ne.symm (by assumption) | omega
  have offA : ∀ c, (∀ q ∈ r.ex w n z #[.ref (r.x k.toNat)] nz vh ve ne ++ (r.thD w θ k.toNat :: [(r.x k.toNat, instObj 78 (r.d k.toNat)), (r.wk k.toNat, listOf #[] (r.nw k.toNat)), (r.it k.toNat, listOf #[] (r.ni k.toNat))]), @Ne Nat q.1 c) → g₁.get? c = none → ∀ q ∈ r.all w n z #[.ref (r.x k.toNat)] nz vh ve ne θ, @Ne Nat q.1 c := fun c hc gc q hq e => by
    rcases List.mem_append.mp (hs q hq) with h | h
    · exact hc q h e
    · have := (hReb.rest q h).1
      rw [e, gc] at this; cases this
  have az := offA z2 offz (N9 _ (.head _)).2.2
  have aD := offA D offD (N9 _ (.tail _ (.head _))).2.2
  have hZ2 : r.Zoff n z2 := zoff_of az
  have frs : ∀ c, (∀ q ∈ r.all w n z #[.ref (r.x k.toNat)] nz vh ve ne θ, @Ne Nat q.1 c) → g₁.get? c = none → s.heap.get? c = none := fun c hc gc => by
    cases e3 : s.heap.get? c with
    | none => rfl
    | some o =>
      by_cases hm : c ∈ ((r.ex w n z #[.ref (r.x k.toNat)] nz vh ve ne ++ (r.thD w θ k.toNat :: [(r.x k.toNat, instObj 78 (r.d k.toNat)), (r.wk k.toNat, listOf #[] (r.nw k.toNat)), (r.it k.toNat, listOf #[] (r.ni k.toNat))])) ++ R).map (·.1)
      · obtain ⟨q, hq, e5⟩ := RealA.adrs_mem (w := w) (zs := #[.ref (r.x k.toNat)]) (nz := nz) (vh := vh) (ve := ve) (ne := ne) (θ := θ) (hAdr c hm)
        exact absurd e5 (hc q hq)
      · have := hReb.sub _ _ (kg _ _ e3 hm)
        rw [gc] at this; cases this
  have fz := frs z2 az (N9 _ (.head _)).2.2
  have NR : News g L' _ R := fun q hq => ⟨F9.keep _ _ (hReb.rest q hq).1, Nat.ne_of_lt (hReb.rest q hq).2.1, (hReb.rest q hq).2.2⟩
  obtain ⟨t, ht, e1, e2, e3, e4, e5⟩ := news_th w.params (r.d k.toNat) N9 (by k_mem)
  have N1 : News g L' _ (r.ex w n z2 #[] 0 vh ve ne) := hReb.ex (news_sub N9 (by dsimp only [RealA.ex]; lcg_sub))
  have N3 : News g L' _ [(r.x k.toNat, instObj 78 (r.d k.toNat)), (r.wk k.toNat, listOf #[] (r.nw k.toNat)), (r.it k.toNat, listOf #[] (r.ni k.toNat))] := hReb.ex (news_sub N9 (by lcg_sub))
  have ND : News g L' _ [(D, listOf #[.ref (r.x k.toNat)] _)] := hReb.ex (news_sub N9 (fun q hq => by rw [List.mem_singleton.mp hq]; exact .tail _ (.head _)))
  have Nall := refocusU O hz hp N1 (hReb.ex ht) N3 NR hs
  have F10 := hReb.fr F9
  have hR1 := relR_same (t := t) hR hheld (by rw [e2]) (by rw [e5, hfr])
  have NallD := news_app ND Nall
  refine hGo ?_; clear hGo
  (with_unfolding_all refine' For_invVF F10 ?kk1 ?kk2 ?_)
  case kk1 => exact rfl
  case kk2 => exact rfl
  clear F10
  repeat' ((fail_if_success (with_reducible show wpAny _ _ (pyIter _) _ _ _)); first | (k_unfold; (try dsimp only)) | (k_here; k_dflt (refine whl_start 100 ?_)) | (k_here; (with_reducible show wpAny _ _ (call (Value.ref 267) [Value.ref _]) _ _ _); k_dflt (refine' Mine.in_order_spec ?y1B ?y1F ?y1X ?y1N ?y1m1 ?y1m2 ?y1m3 ?y1T ?y1hk ?y1hd ?y1hu ?_; (case y1F => k_asm); (case y1N => k_asm); (case y1B => k_asm); (case y1X => k_asm); (case y1T => k_asm); (case y1m1 => k_mem); (case y1m2 => k_mem); (case y1m3 => k_mem); (case y1hk => rfl); (case y1hd => ktr_room); (case y1hu => ktr_units)); intro D' h' tk' n' F' N' o1; (try simp only [List.forall_mem_cons, and_true] at o1); (repeat ((have hq9 := And.left o1); (replace o1 := And.right o1)))) | walk1 | (dsimp only; walk1) | fail "no step")
  have F10 := hReb.fr F9
  clear N9 F9 N1 N3 NR ht ND Nall
  have NallD := news_sub NallD (fun q (hq : q ∈ (D, listOf #[.ref (r.x k.toNat)] _) :: r.all w n z2 #[] 0 vh ve ne (upd θ k.toNat t)) => hq)
  refine iter_listN2 (vs := [.ref (r.x k.toNat)]) (R := fun us S' nx => ∃ z' nz' vh' ve' ne' θ', nx = (D, listOf #[.ref (r.x k.toNat)] _) :: r.all w n z' #[] nz' vh' ve' ne' θ' ∧ BoolsAre vh' S'.held ∧ IntsAre ve' S'.log ∧ RelR r n S' θ' ∧ r.Zoff n z' ∧ (z' = z ∨ s.heap.get? z' = none) ∧ @Ne Nat z' D ∧
      ((us = [.ref (r.x k.toNat)] ∧ S' = S ∧ z' = z2 ∧ θ' = upd θ k.toNat t) ∨ (us = [] ∧ S' = finA plan bl f S k ∧ LeftBut n k.toNat S (finA plan bl f S k) (upd θ k.toNat t) θ' ∧ (θ' k.toNat).cnt = 0 ∧ (θ' k.toNat).wk = r.wk k.toNat ∧ (θ' k.toNat).it = r.it k.toNat ∧ (θ' k.toNat).freed = false)))
      (fun _ _ => finA plan bl f S k) S (by rfl) F10 NallD (.head _) ⟨_, _, _, _, _, _, rfl, hvh, hve, hR1, hZ2, .inr fz, hDz, .inl ⟨rfl, rfl, rfl, rfl⟩⟩ ?_ ?_ ?_
  · rintro us a1 nx ⟨z', nz', vh', ve', ne', θ', rfl, _⟩
    exact .head _
  · intro v us a1 nx I it h2 tk2 hRR0 hoffI F2 N2'
    refine Classical.byContradiction fun hGo => ?_
    (obtain ⟨z', nz', vh', ve', ne', θ', rfl, b1, b2, b3, b4, b5, b6, ⟨b7, rfl, rfl, rfl⟩ | ⟨b7, _⟩⟩ := hRR0) <;> (refine hGo ?_; clear hGo)
    case inr => cases b7
    refine Classical.byContradiction fun hGo => ?_
    obtain ⟨rfl, rfl⟩ := List.cons.inj b7
    clear F10 NallD
    have N3 := N2'
    dsimp only [RealA.all, RealA.ex] at N3
    dsimp only [List.cons_append, List.nil_append] at N3
    refine hGo ?_; clear hGo
    (try k_fold)
    repeat' ((fail_if_success (with_reducible show wpAny _ _ (call (Value.ref 349) _) _ _ _)); first | (k_unfold; (try dsimp only)) | (k_here; k_dflt (refine whl_start 100 ?_)) | (k_here; (with_reducible show wpAny _ _ (call (Value.ref 267) [Value.ref _]) _ _ _); k_dflt (refine' Mine.in_order_spec ?y1B ?y1F ?y1X ?y1N ?y1m1 ?y1m2 ?y1m3 ?y1T ?y1hk ?y1hd ?y1hu ?_; (case y1F => k_asm); (case y1N => k_asm); (case y1B => k_asm); (case y1X => k_asm); (case y1T => k_asm); (case y1m1 => k_mem); (case y1m2 => k_mem); (case y1m3 => k_mem); (case y1hk => rfl); (case y1hd => ktr_room); (case y1hu => ktr_units)); intro D' h' tk' n' F' N' o1; (try simp only [List.forall_mem_cons, and_true] at o1); (repeat ((have hq9 := And.left o1); (replace o1 := And.right o1)))) | walk1 | (dsimp only; walk1) | fail "no step")
    have IH' := IH
    unfold FinR RSpec at IH'
    k_dflt (refine' IH' _ _ _ _ _ _ _ _ _ _ _ _ _ _ _ _ _ z' nz' vh' ve' ne' (upd θ k.toNat t) S k 0 GB ?k2 GX GT ?k5 (fun p hp => N2' p (List.mem_cons_of_mem _ (List.mem_cons_of_mem _ hp))) b1 b2 hS b3 b4 h0 h1 ⟨hheld, ?kp, hhc⟩ ?kd ?ku ?_)
    case k2 => exact F2
    case k5 => rfl
    case kp => rw [upd_self, e1]
    case kd => ktr_room
    case ku => ktr_units
    intro h3 tk3 z3 nz3 vh3 ve3 ne3 θ3 F3 N4 c1 c2 c3 c4 c5 c6 kp3
    have N4b := N4
    dsimp only [RealA.all, RealA.ex] at N4
    dsimp only [List.cons_append, List.nil_append] at N4
    dsimp only
    clear N3
    repeat' (first | (k_unfold; (try dsimp only)) | (k_here; k_dflt (refine whl_start 100 ?_)) | (k_here; (with_reducible show wpAny _ _ (call (Value.ref 267) [Value.ref _]) _ _ _); k_dflt (refine' Mine.in_order_spec ?y1B ?y1F ?y1X ?y1N ?y1m1 ?y1m2 ?y1m3 ?y1T ?y1hk ?y1hd ?y1hu ?_; (case y1F => k_asm); (case y1N => k_asm); (case y1B => k_asm); (case y1X => k_asm); (case y1T => k_asm); (case y1m1 => k_mem); (case y1m2 => k_mem); (case y1m3 => k_mem); (case y1hk => rfl); (case y1hd => ktr_room); (case y1hu => ktr_units)); intro D' h' tk' n' F' N' o1; (try simp only [List.forall_mem_cons, and_true] at o1); (repeat ((have hq9 := And.left o1); (replace o1 := And.right o1)))) | walk1 | (dsimp only; walk1) | fail "no step")
    have hzI : ∀ c, (∃ o, News g L' h2 [(c, o)]) → @Ne Nat z' c → @Ne Nat z3 c := fun c ⟨o, ho⟩ hc e => by
      rcases c6 with e2 | e2
      · exact hc (e2.symm.trans e)
      · rw [e, (ho _ (.head _)).1] at e2; cases e2
    have NI : News g L' h2 [(I, it)] := fun p hp => by rw [List.mem_singleton.mp hp]; exact N2' _ (.head _)
    have ND : News g L' h2 [(D, _)] := fun p hp => by rw [List.mem_singleton.mp hp]; exact N2' _ (.tail _ (.head _))
    have hID : @Ne Nat D I := hoffI _ (.head _)
    have offI2 : ∀ q ∈ r.all w n z' #[] nz' vh' ve' ne' (upd θ k.toNat t), q.1 ≠ I := fun q hq => hoffI q (.tail _ hq)
    have offD2 : ∀ q ∈ r.all w n z' #[] nz' vh' ve' ne' (upd θ k.toNat t), q.1 ≠ D := RealA.off_z aD b6
    have hzD := hzI D ⟨_, ND⟩ b6
    have hzI2 := hzI I ⟨_, NI⟩ (offI2 (z', listOf #[] nz') (List.mem_append_left _ (by k_mem)))
    have kpI : ∀ c o, News g L' h2 [(c, o)] → (∀ q ∈ r.all w n z' #[] nz' vh' ve' ne' (upd θ k.toNat t), q.1 ≠ c) → News g L' h3 [(c, o)] := fun c o hN hc p hp => by
      rw [List.mem_singleton.mp hp]
      refine ⟨kp3 _ _ (fun hm => ?_) (hN _ (.head _)).1, (hN _ (.head _)).2⟩
      obtain ⟨q', hq', e⟩ := RealA.adrs_mem (w := w) (zs := #[]) (nz := nz') (vh := vh') (ve := ve') (ne := ne') (θ := upd θ k.toNat t) hm
      exact hc q' hq' e
    have N5 := news_app (kpI _ _ NI offI2) (news_app (kpI _ _ ND offD2) N4b)
    refine ⟨h3, _, _, (D, listOf #[.ref (r.x k.toNat)] _) :: r.all w n z3 #[] nz3 vh3 ve3 ne3 θ3, rfl, F3, N5, fun q hq => ?_, z3, nz3, vh3, ve3, ne3, θ3, rfl, c1, c2, c3, c4, ?_, hzD, .inr ⟨by first | rfl | trivial, by first | rfl | trivial, c5.1, c5.2.1, ?_, ?_, ?_⟩⟩
    · rcases List.mem_cons.mp hq with rfl | hq
      · exact hID
      · exact RealA.off_z offI2 hzI2 q hq
    · rcases c6 with e | e
      · rw [e]; exact b5
      · cases e6 : s.heap.get? z3 with
        | none => exact .inr rfl
        | some o =>
          by_cases hm : z3 ∈ r.adrs n z
          · rcases RealA.adrs_z (z' := z') hm with h5 | h5
            · exact .inl h5
            · obtain ⟨q2, hq2, e5⟩ := RealA.adrs_mem (w := w) (zs := #[]) (nz := nz') (vh := vh') (ve := ve') (ne := ne') (θ := upd θ k.toNat t) h5
              have := (N2' q2 (.tail _ (.tail _ hq2))).1
              rw [e5, e] at this; cases this
          · have := F2.keep _ _ (kg _ _ e6 fun h => hm (hAdr _ h))
            rw [e] at this; cases this
    · rw [c5.2.2.1, upd_self, e3]
    · rw [c5.2.2.2.1, upd_self, e4]
    · rw [c5.2.2.2.2, upd_self, e5]
  · intro v nx h3 tk3 hRR0 F3 N3
    refine Classical.byContradiction fun hGo => ?_
    (obtain ⟨z', nz', vh', ve', ne', θ', rfl, b1, b2, b3, b4, b5, b6, ⟨b7, _⟩ | ⟨_, b7, b8, b9, b10, b11, b12⟩⟩ := hRR0) <;> (refine hGo ?_; clear hGo)
    · cases b7
    clear F10 NallD
    dsimp only
    repeat' ((fail_if_success (with_reducible show wpAny _ _ (exec (Stmt.For _ _ _ _ _) _) _ _ _)); first | (k_unfold; (try dsimp only)) | (k_here; k_dflt (refine whl_start 100 ?_)) | (k_here; (with_reducible show wpAny _ _ (call (Value.ref 267) [Value.ref _]) _ _ _); k_dflt (refine' Mine.in_order_spec ?y1B ?y1F ?y1X ?y1N ?y1m1 ?y1m2 ?y1m3 ?y1T ?y1hk ?y1hd ?y1hu ?_; (case y1F => k_asm); (case y1N => k_asm); (case y1B => k_asm); (case y1X => k_asm); (case y1T => k_asm); (case y1m1 => k_mem); (case y1m2 => k_mem); (case y1m3 => k_mem); (case y1hk => rfl); (case y1hd => ktr_room); (case y1hu => ktr_units)); intro D' h' tk' n' F' N' o1; (try simp only [List.forall_mem_cons, and_true] at o1); (repeat ((have hq9 := And.left o1); (replace o1 := And.right o1)))) | walk1 | (dsimp only; walk1) | fail "no step")
    (with_unfolding_all refine' For_invVF F3 ?kk1 ?kk2 ?_)
    case kk1 => exact rfl
    case kk2 => exact rfl
    repeat' ((fail_if_success (with_reducible show wpAny _ _ (pyIter _) _ _ _)); first | (k_unfold; (try dsimp only)) | (k_here; k_dflt (refine whl_start 100 ?_)) | (k_here; (with_reducible show wpAny _ _ (call (Value.ref 267) [Value.ref _]) _ _ _); k_dflt (refine' Mine.in_order_spec ?y1B ?y1F ?y1X ?y1N ?y1m1 ?y1m2 ?y1m3 ?y1T ?y1hk ?y1hd ?y1hu ?_; (case y1F => k_asm); (case y1N => k_asm); (case y1B => k_asm); (case y1X => k_asm); (case y1T => k_asm); (case y1m1 => k_mem); (case y1m2 => k_mem); (case y1m3 => k_mem); (case y1hk => rfl); (case y1hd => ktr_room); (case y1hu => ktr_units)); intro D' h' tk' n' F' N' o1; (try simp only [List.forall_mem_cons, and_true] at o1); (repeat ((have hq9 := And.left o1); (replace o1 := And.right o1)))) | walk1 | (dsimp only; walk1) | fail "no step")
    refine iter_listN2 (σ := Unit) (vs := [.ref (r.x k.toNat)]) (R := fun us _ nx => ∃ θ2, nx = (D, listOf #[.ref (r.x k.toNat)] _) :: r.all w n z' #[] nz' vh' ve' ne' θ2 ∧ ((us = [.ref (r.x k.toNat)] ∧ θ2 = θ') ∨ (us = [] ∧ ∃ t2, θ2 = upd θ' k.toNat t2 ∧ t2.cnt = 0 ∧ t2.dest = (θ' k.toNat).dest ∧ t2.freed = true)))
      (fun u _ => u) () (by rfl) F3 N3 (.head _) ⟨_, rfl, .inl ⟨rfl, rfl⟩⟩ ?_ ?_ ?_
    · rintro us a1 nx ⟨θ2, rfl, _⟩
      exact .head _
    · intro v us a1 nx I it h2 tk2 hRR0 hoffI F2 N2'
      refine Classical.byContradiction fun hGo => ?_
      (obtain ⟨θ2, rfl, ⟨c7, rfl⟩ | ⟨c7, _⟩⟩ := hRR0) <;> (refine hGo ?_; clear hGo)
      refine Classical.byContradiction fun hGo => ?_
      case inr => cases c7
      obtain ⟨rfl, rfl⟩ := List.cons.inj c7
      clear F3 N3
      obtain ⟨g2, R2, hReb2, F4, N5, ho5, hs5, hs6⟩ := reopen (k := k.toNat) (Xr := [(r.x k.toNat, instObj 78 (r.d k.toNat)), (r.wk k.toNat, listOf #[] (r.nw k.toNat)), (r.it k.toNat, listOf #[] (r.ni k.toNat))]) (Y := [(I, it), (D, listOf #[.ref (r.x k.toNat)] _)]) F2 (fun p hp => N2' p (.tail _ (.tail _ hp))) hp (fun q hq => by
          simp only [List.mem_cons, List.not_mem_nil, or_false] at hq ⊢
          rcases hq with rfl | rfl | rfl <;> first | k_mem | simp) (RealA.ths_lt hlt) (fun p hp => by
          replace hp := mem_ors hp
          rcases hp with rfl | rfl
          · exact N2' _ (.head _)
          · exact N2' _ (.tail _ (.head _))) (fun p hp q hq => by
          replace hq := mem_ors hq
          rcases hq with rfl | rfl
          · exact hoffI p (.tail _ (List.mem_append_right _ hp))
          · exact RealA.off_z (zs' := #[]) (nz' := nz') (vh' := vh') (ve' := ve') (ne' := ne') (θ' := θ2) aD b6 p (List.mem_append_right _ hp))
      have X2 := GX.keeps hReb2.sub
      have T2 := GT.keeps hReb2.sub
      have B2 := below_up GB hReb2
      have hoD := RealA.off_z (zs' := #[]) (nz' := nz') (vh' := vh') (ve' := ve') (ne' := ne') (θ' := θ2) aD b6
      have hne5 : @Ne Nat z' (r.d k.toNat) := (b4.2 _ hp).1
      have hne6 : @Ne Nat I (r.d k.toNat) := Ne.symm (hoffI (r.thD w θ2 k.toNat) (.tail _ (List.mem_append_right _ (r.ths_d hp))))
      have hne7 : @Ne Nat D (r.d k.toNat) := Ne.symm (hoD (r.thD w θ2 k.toNat) (List.mem_append_right _ (r.ths_d hp)))
      clear F2
      dsimp only [RealA.ex, RealA.thD, RealA.all, Th.obj] at N5
      dsimp only [List.cons_append, List.nil_append] at N5
      simp only [b9, b10, b11, b12] at N5
      refine hGo ?_; clear hGo
      (try k_fold)
      repeat' ((fail_if_success (with_reducible show wpAny _ _ (call (Value.ref 356) _) _ _ _)); first | (k_unfold; (try dsimp only)) | (k_here; k_dflt (refine whl_start 100 ?_)) | (k_here; (with_reducible show wpAny _ _ (call (Value.ref 267) [Value.ref _]) _ _ _); k_dflt (refine' Mine.in_order_spec ?y1B ?y1F ?y1X ?y1N ?y1m1 ?y1m2 ?y1m3 ?y1T ?y1hk ?y1hd ?y1hu ?_; (case y1F => k_asm); (case y1N => k_asm); (case y1B => k_asm); (case y1X => k_asm); (case y1T => k_asm); (case y1m1 => k_mem); (case y1m2 => k_mem); (case y1m3 => k_mem); (case y1hk => rfl); (case y1hd => ktr_room); (case y1hu => ktr_units)); intro D' h' tk' n' F' N' o1; (try simp only [List.forall_mem_cons, and_true] at o1); (repeat ((have hq9 := And.left o1); (replace o1 := And.right o1)))) | walk1 | (dsimp only; walk1) | fail "no step")
      rename News _ _ _ _ => N9
      rename Fr _ _ _ _ => F9
      k_dflt (refine' free_spec B2 F9 X2 T2 ?k5 N9 ?m1 ?m2 ?m3 ?U hne1 hne3 hne4 ?kd ?ku ?_)
      case k5 => rfl
      case m1 => k_mem
      case m2 => k_mem
      case m3 => k_mem
      case U => k_updF
      case kd => ktr_room
      case ku => ktr_units
      intro h3 tk3 wk3 it3 F3 N3
      dsimp only at N3 ⊢
      clear N9 F9
      repeat' (first | (k_unfold; (try dsimp only)) | (k_here; k_dflt (refine whl_start 100 ?_)) | (k_here; (with_reducible show wpAny _ _ (call (Value.ref 267) [Value.ref _]) _ _ _); k_dflt (refine' Mine.in_order_spec ?y1B ?y1F ?y1X ?y1N ?y1m1 ?y1m2 ?y1m3 ?y1T ?y1hk ?y1hd ?y1hu ?_; (case y1F => k_asm); (case y1N => k_asm); (case y1B => k_asm); (case y1X => k_asm); (case y1T => k_asm); (case y1m1 => k_mem); (case y1m2 => k_mem); (case y1m3 => k_mem); (case y1hk => rfl); (case y1hd => ktr_room); (case y1hu => ktr_units)); intro D' h' tk' n' F' N' o1; (try simp only [List.forall_mem_cons, and_true] at o1); (repeat ((have hq9 := And.left o1); (replace o1 := And.right o1)))) | walk1 | (dsimp only; walk1) | fail "no step")
      have NR : News g L' _ R2 := fun q hq => ⟨F3.keep _ _ (hReb2.rest q hq).1, Nat.ne_of_lt (hReb2.rest q hq).2.1, (hReb2.rest q hq).2.2⟩
      obtain ⟨t2, ht2, d1, d2, d3, d4, d5⟩ := news_th w.params (r.d k.toNat) N3 (by k_mem)
      have N1 : News g L' _ (r.ex w n z' #[] nz' vh' ve' ne') := hReb2.ex (news_sub N3 (by dsimp only [RealA.ex]; lcg_sub))
      have N4 : News g L' _ [(r.x k.toNat, instObj 78 (r.d k.toNat)), (r.wk k.toNat, listOf #[] (r.nw k.toNat)), (r.it k.toNat, listOf #[] (r.ni k.toNat))] := hReb2.ex (news_sub N3 (by lcg_sub))
      have NY : News g L' _ [(I, it), (D, listOf #[.ref (r.x k.toNat)] _)] := hReb2.ex (news_sub N3 (by lcg_sub))
      have Nall := refocusU O b4 hp N1 (hReb2.ex ht2) N4 NR hs5
      refine ⟨h3, _, _, (D, listOf #[.ref (r.x k.toNat)] _) :: r.all w n z' #[] nz' vh' ve' ne' (upd θ2 k.toNat t2), rfl, hReb2.fr F3, news_app NY Nall, fun q hq => ?_, _, rfl, .inr ⟨by first | rfl | trivial, t2, rfl, d1, d2, d5⟩⟩
      rcases List.mem_cons.mp hq with rfl | hq
      · exact hoffI _ (.head _)
      · exact RealA.off_z (zs := #[]) (nz := nz') (vh := vh') (ve := ve') (ne := ne') (θ := θ2) (fun q hq => hoffI q (.tail _ hq)) (fun e => hoffI (z', listOf #[] nz') (.tail _ (List.mem_append_left _ (by k_mem))) e) q hq
    · intro v1 nx h4 tk4 hRR0 F4 N4
      refine Classical.byContradiction fun hGo => ?_
      (obtain ⟨θ2, rfl, ⟨c7, _⟩ | ⟨_, t2, c7, c8, c9, c10⟩⟩ := hRR0) <;> (refine hGo ?_; clear hGo)
      · cases c7
      clear F3 N3
      have N5 := N4
      dsimp only [RealA.all, RealA.ex] at N5
      dsimp only [List.cons_append, List.nil_append] at N5
      clear N4
      dsimp only
      repeat' ((fail_if_success (with_reducible show LeaveK _ _ _ _ _ _ _)); first | (k_unfold; (try dsimp only)) | (k_here; k_dflt (refine whl_start 100 ?_)) | (k_here; (with_reducible show wpAny _ _ (call (Value.ref 267) [Value.ref _]) _ _ _); k_dflt (refine' Mine.in_order_spec ?y1B ?y1F ?y1X ?y1N ?y1m1 ?y1m2 ?y1m3 ?y1T ?y1hk ?y1hd ?y1hu ?_; (case y1F => k_asm); (case y1N => k_asm); (case y1B => k_asm); (case y1X => k_asm); (case y1T => k_asm); (case y1m1 => k_mem); (case y1m2 => k_mem); (case y1m3 => k_mem); (case y1hk => rfl); (case y1hd => ktr_room); (case y1hu => ktr_units)); intro D' h' tk' n' F' N' o1; (try simp only [List.forall_mem_cons, and_true] at o1); (repeat ((have hq9 := And.left o1); (replace o1 := And.right o1)))) | walk1 | (dsimp only; walk1) | fail "no step")
      rename News _ _ _ _ => N7
      have Nall : News g L' _ (r.all w n z' #[] nz' vh' ve' ne' θ2) := fun q hq => N7 q (.tail _ hq)
      clear N7
      repeat' (first | (k_unfold; (try dsimp only)) | (k_here; k_dflt (refine whl_start 100 ?_)) | (k_here; (with_reducible show wpAny _ _ (call (Value.ref 267) [Value.ref _]) _ _ _); k_dflt (refine' Mine.in_order_spec ?y1B ?y1F ?y1X ?y1N ?y1m1 ?y1m2 ?y1m3 ?y1T ?y1hk ?y1hd ?y1hu ?_; (case y1F => k_asm); (case y1N => k_asm); (case y1B => k_asm); (case y1X => k_asm); (case y1T => k_asm); (case y1m1 => k_mem); (case y1m2 => k_mem); (case y1m3 => k_mem); (case y1hk => rfl); (case y1hd => ktr_room); (case y1hu => ktr_units)); intro D' h' tk' n' F' N' o1; (try simp only [List.forall_mem_cons, and_true] at o1); (repeat ((have hq9 := And.left o1); (replace o1 := And.right o1)))) | walk1 | (dsimp only; walk1) | fail "no step")
      rename Keep _ _ _ => kp
      dsimp only at ret
      have hfl := (finA_len (bl := bl) (f := f) O.inplan hS h0 h1).freed
      have hfh := finA_held (plan := plan) (bl := bl) (f := f) (k := k) hheld
      subst c7
      refine ret _ _ _ _ _ _ _ _ (by k_asm) (by k_asm) b1 b2 (relR_free b3 hfl hp hfh c9 c10) b4 ⟨⟨fun j hj hjk h4 => ?_, fun j hj hjk h4 h5 => ?_⟩, ?_⟩ b5 (kp.mono hAdr)
      · rw [upd_ne hjk, b8.1 j hj hjk h4, upd_ne hjk]
      · rw [upd_ne hjk]; exact b8.2 j hj hjk h4 h5
      · rw [upd_self, c8]
theorem all (x : XX) : St (x.1) (x.2.1) (x.2.2.1) (x.2.2.2.1) (x.2.2.2.2.1) (x.2.2.2.2.2.1) (x.2.2.2.2.2.2.1) (x.2.2.2.2.2.2.2.1) (x.2.2.2.2.2.2.2.2.1) (x.2.2.2.2.2.2.2.2.2.1) (x.2.2.2.2.2.2.2.2.2.2.1) (x.2.2.2.2.2.2.2.2.2.2.2.1) (x.2.2.2.2.2.2.2.2.2.2.2.2.1) (x.2.2.2.2.2.2.2.2.2.2.2.2.2.1) (x.2.2.2.2.2.2.2.2.2.2.2.2.2.2.1) (x.2.2.2.2.2.2.2.2.2.2.2.2.2.2.2.1) (x.2.2.2.2.2.2.2.2.2.2.2.2.2.2.2.2.1) (x.2.2.2.2.2.2.2.2.2.2.2.2.2.2.2.2.2.1) (x.2.2.2.2.2.2.2.2.2.2.2.2.2.2.2.2.2.2.1) (x.2.2.2.2.2.2.2.2.2.2.2.2.2.2.2.2.2.2.2.1) (x.2.2.2.2.2.2.2.2.2.2.2.2.2.2.2.2.2.2.2.2.1) (x.2.2.2.2.2.2.2.2.2.2.2.2.2.2.2.2.2.2.2.2.2.1) (x.2.2.2.2.2.2.2.2.2.2.2.2.2.2.2.2.2.2.2.2.2.2.1) (x.2.2.2.2.2.2.2.2.2.2.2.2.2.2.2.2.2.2.2.2.2.2.2.1) (x.2.2.2.2.2.2.2.2.2.2.2.2.2.2.2.2.2.2.2.2.2.2.2.2.1) (x.2.2.2.2.2.2.2.2.2.2.2.2.2.2.2.2.2.2.2.2.2.2.2.2.2.1) (x.2.2.2.2.2.2.2.2.2.2.2.2.2.2.2.2.2.2.2.2.2.2.2.2.2.2.1) (x.2.2.2.2.2.2.2.2.2.2.2.2.2.2.2.2.2.2.2.2.2.2.2.2.2.2.2.1) (x.2.2.2.2.2.2.2.2.2.2.2.2.2.2.2.2.2.2.2.2.2.2.2.2.2.2.2.2.1) (x.2.2.2.2.2.2.2.2.2.2.2.2.2.2.2.2.2.2.2.2.2.2.2.2.2.2.2.2.2.1) (x.2.2.2.2.2.2.2.2.2.2.2.2.2.2.2.2.2.2.2.2.2.2.2.2.2.2.2.2.2.2.1) (x.2.2.2.2.2.2.2.2.2.2.2.2.2.2.2.2.2.2.2.2.2.2.2.2.2.2.2.2.2.2.2.1) (x.2.2.2.2.2.2.2.2.2.2.2.2.2.2.2.2.2.2.2.2.2.2.2.2.2.2.2.2.2.2.2.2.1) (x.2.2.2.2.2.2.2.2.2.2.2.2.2.2.2.2.2.2.2.2.2.2.2.2.2.2.2.2.2.2.2.2.2.1) (x.2.2.2.2.2.2.2.2.2.2.2.2.2.2.2.2.2.2.2.2.2.2.2.2.2.2.2.2.2.2.2.2.2.2.1) (x.2.2.2.2.2.2.2.2.2.2.2.2.2.2.2.2.2.2.2.2.2.2.2.2.2.2.2.2.2.2.2.2.2.2.2.1) (x.2.2.2.2.2.2.2.2.2.2.2.2.2.2.2.2.2.2.2.2.2.2.2.2.2.2.2.2.2.2.2.2.2.2.2.2.1) (x.2.2.2.2.2.2.2.2.2.2.2.2.2.2.2.2.2.2.2.2.2.2.2.2.2.2.2.2.2.2.2.2.2.2.2.2.2) := eps_all (ne := neX) (P := fun x => St (x.1) (x.2.1) (x.2.2.1) (x.2.2.2.1) (x.2.2.2.2.1) (x.2.2.2.2.2.1) (x.2.2.2.2.2.2.1) (x.2.2.2.2.2.2.2.1) (x.2.2.2.2.2.2.2.2.1) (x.2.2.2.2.2.2.2.2.2.1) (x.2.2.2.2.2.2.2.2.2.2.1) (x.2.2.2.2.2.2.2.2.2.2.2.1) (x.2.2.2.2.2.2.2.2.2.2.2.2.1) (x.2.2.2.2.2.2.2.2.2.2.2.2.2.1) (x.2.2.2.2.2.2.2.2.2.2.2.2.2.2.1) (x.2.2.2.2.2.2.2.2.2.2.2.2.2.2.2.1) (x.2.2.2.2.2.2.2.2.2.2.2.2.2.2.2.2.1) (x.2.2.2.2.2.2.2.2.2.2.2.2.2.2.2.2.2.1) (x.2.2.2.2.2.2.2.2.2.2.2.2.2.2.2.2.2.2.1) (x.2.2.2.2.2.2.2.2.2.2.2.2.2.2.2.2.2.2.2.1) (x.2.2.2.2.2.2.2.2.2.2.2.2.2.2.2.2.2.2.2.2.1) (x.2.2.2.2.2.2.2.2.2.2.2.2.2.2.2.2.2.2.2.2.2.1) (x.2.2.2.2.2.2.2.2.2.2.2.2.2.2.2.2.2.2.2.2.2.2.1) (x.2.2.2.2.2.2.2.2.2.2.2.2.2.2.2.2.2.2.2.2.2.2.2.1) (x.2.2.2.2.2.2.2.2.2.2.2.2.2.2.2.2.2.2.2.2.2.2.2.2.1) (x.2.2.2.2.2.2.2.2.2.2.2.2.2.2.2.2.2.2.2.2.2.2.2.2.2.1) (x.2.2.2.2.2.2.2.2.2.2.2.2.2.2.2.2.2.2.2.2.2.2.2.2.2.2.1) (x.2.2.2.2.2.2.2.2.2.2.2.2.2.2.2.2.2.2.2.2.2.2.2.2.2.2.2.1) (x.2.2.2.2.2.2.2.2.2.2.2.2.2.2.2.2.2.2.2.2.2.2.2.2.2.2.2.2.1) (x.2.2.2.2.2.2.2.2.2.2.2.2.2.2.2.2.2.2.2.2.2.2.2.2.2.2.2.2.2.1) (x.2.2.2.2.2.2.2.2.2.2.2.2.2.2.2.2.2.2.2.2.2.2.2.2.2.2.2.2.2.2.1) (x.2.2.2.2.2.2.2.2.2.2.2.2.2.2.2.2.2.2.2.2.2.2.2.2.2.2.2.2.2.2.2.1) (x.2.2.2.2.2.2.2.2.2.2.2.2.2.2.2.2.2.2.2.2.2.2.2.2.2.2.2.2.2.2.2.2.1) (x.2.2.2.2.2.2.2.2.2.2.2.2.2.2.2.2.2.2.2.2.2.2.2.2.2.2.2.2.2.2.2.2.2.1) (x.2.2.2.2.2.2.2.2.2.2.2.2.2.2.2.2.2.2.2.2.2.2.2.2.2.2.2.2.2.2.2.2.2.2.1) (x.2.2.2.2.2.2.2.2.2.2.2.2.2.2.2.2.2.2.2.2.2.2.2.2.2.2.2.2.2.2.2.2.2.2.2.1) (x.2.2.2.2.2.2.2.2.2.2.2.2.2.2.2.2.2.2.2.2.2.2.2.2.2.2.2.2.2.2.2.2.2.2.2.2.1) (x.2.2.2.2.2.2.2.2.2.2.2.2.2.2.2.2.2.2.2.2.2.2.2.2.2.2.2.2.2.2.2.2.2.2.2.2.2)) (by with_unfolding_all exact core) x
end C_set_of_finB
theorem set_of_finB {w : World}
  {p : Program}
  {loose : List PySem.Str}
  {mean : ExcName → Option Value}
  {mg mb : PySem.Str → Option Value}
  {r : RealA}
  {plan : List (List Int)}
  {bl : List Bool}
  {n : Nat}
  (O : RealOk w r plan bl n)
  {f d : Nat}
  {dp un : Nat}
  {gd : Option (List Code)}
  {cn : PySem.Str}
  {cs : Scope}
  {a : Addr}
  {ccd : Value}
  {cl : List (PySem.Str × Addr)}
  {outer : List Env}
  {A₀ : Around}
  {base h₀ : Heap}
  {L : Addr}
  {m : PySem.Str → Option Value}
  {s : Shared}
  {Q E : Value → Shared → Prop}
  {z : Addr}
  {nz : Nat}
  {vh ve : List Value}
  {ne : Nat}
  {θ : Nat → Th}
  {S : S}
  {k : Int}
  {tkk : Tok}
  (IH : FinR w p loose mean mg mb r plan bl n f d) : SetB w p loose mean mg mb r plan bl n f (d + 4) dp un gd cn cs a ccd cl outer A₀ base h₀ L m s Q E z nz vh ve ne θ S k tkk :=
  C_set_of_finB.all (w, p, loose, mean, mg, mb, r, plan, bl, n, f, d, dp, un, gd, cn, cs, a, ccd, cl, outer, A₀, base, h₀, L, m, s, Q, E, z, nz, vh, ve, ne, θ, S, k, tkk) O IH
theorem set_of_fin {w : World} {p : Program} {loose : List PySem.Str} {mean : ExcName → Option Value} {mg mb : PySem.Str → Option Value} {r : RealA} {plan : List (List Int)} {bl : List Bool} {n : Nat} (O : RealOk w r plan bl n) {f d : Nat}
    (IH : FinR w p loose mean mg mb r plan bl n f d) : SetR w p loose mean mg mb r plan bl n f (d + 4) := by
  unfold SetR RSpec
  intro dp un gd cn cs a ccd cl outer A₀ base h₀ L m s Q E z nz vh ve ne θ S k tkk
  exact set_of_finB O IH
end Mine
end
theorem Mine.rs_o2 {w : PySem.World} {p : PySem.Program} {A : PySem.Around} {q : PySem.Pos} {e : PySem.Env} {Q : PySem.Flow → PySem.Shared → Prop} {E : PySem.Value → PySem.Shared → Prop} {s : PySem.Shared} (h : PySem.wpAny (PySem.model p w) A (PySem.exec (PySem.Stmt.Pass q) e) Q E s) : PySem.wpAny (PySem.model p w) A (PySem.exec (PySem.Stmt.Pass q) e) Q E s := by
  w_top off
  first | (walk1; exact h) | exact h
section
open PySem PySem.W PyProof.Rows PySem.Calls LSm Mine
local macro_rules | `(tactic| walk_at "callWith ref") => `(tactic| (k_here; k_dflt (refine' callWith_F ?X ?_; (case X => exact FnAt.of (by k_asm) (by k_mem)); k_whole)))
local macro_rules | `(tactic| walk_at "And") => `(tactic| ((with_reducible show FnAt _ _ ∧ _); k_dflt (refine ⟨FnAt.of (by k_asm) (by k_mem), ?_⟩); (try dsimp only [List.nil_append, List.cons_append])))
theorem Mine.rs_Fin : True := by
  w_top off
  trivial
section
open PySem PySem.W PyProof.Rows PySem.Calls LSm
namespace Mine
namespace C_fin_of_destB
noncomputable abbrev XX : Type := (World) × (Program) × (List PySem.Str) × (ExcName → Option Value) × (PySem.Str → Option Value) × (PySem.Str → Option Value) × (RealA) × (List (List Int)) × (List Bool) × (Nat) × (Nat) × (Nat) × (Nat) × (Option (List Code)) × (PySem.Str) × (Scope) × (Addr) × (Value) × (List (PySem.Str × Addr)) × (List Env) × (Around) × (Heap) × (Heap) × (Addr) × (PySem.Str → Option Value) × (Shared) × (Value → Shared → Prop) × (Value → Shared → Prop) × (Addr) × (Nat) × (List Value) × (List Value) × (Nat) × (Nat → Th) × (S) × (Int) × (Tok)
noncomputable def St (w : World) (p : Program) (loose : List PySem.Str) (mean : ExcName → Option Value) (mg : PySem.Str → Option Value) (mb : PySem.Str → Option Value) (r : RealA) (plan : List (List Int)) (bl : List Bool) (n : Nat) (f : Nat) (dp : Nat) (un : Nat) (gd : Option (List Code)) (cn : PySem.Str) (cs : Scope) (a : Addr) (ccd : Value) (cl : List (PySem.Str × Addr)) (outer : List Env) (A₀ : Around) (base : Heap) (h₀ : Heap) (L : Addr) (m : PySem.Str → Option Value) (s : Shared) (Q : Value → Shared → Prop) (E : Value → Shared → Prop) (z : Addr) (nz : Nat) (vh : List Value) (ve : List Value) (ne : Nat) (θ : Nat → Th) (S : S) (k : Int) (tkk : Tok) : Prop :=
  ∀ (d : Nat) (O : RealOk w r plan bl n) (IH : DestR w p loose mean mg mb r plan bl n f d), FinB w p loose mean mg mb r plan bl n f (d + 1) dp un gd cn cs a ccd cl outer A₀ base h₀ L m s Q E z nz vh ve ne θ S k tkk
theorem neX : Nonempty XX := by
  refine ⟨?_⟩
  repeat' (first | exact default | exact aWorld 1 | constructor | intro _)
noncomputable def cX : XX := @Classical.epsilon XX neX fun x => ¬ St (x.1) (x.2.1) (x.2.2.1) (x.2.2.2.1) (x.2.2.2.2.1) (x.2.2.2.2.2.1) (x.2.2.2.2.2.2.1) (x.2.2.2.2.2.2.2.1) (x.2.2.2.2.2.2.2.2.1) (x.2.2.2.2.2.2.2.2.2.1) (x.2.2.2.2.2.2.2.2.2.2.1) (x.2.2.2.2.2.2.2.2.2.2.2.1) (x.2.2.2.2.2.2.2.2.2.2.2.2.1) (x.2.2.2.2.2.2.2.2.2.2.2.2.2.1) (x.2.2.2.2.2.2.2.2.2.2.2.2.2.2.1) (x.2.2.2.2.2.2.2.2.2.2.2.2.2.2.2.1) (x.2.2.2.2.2.2.2.2.2.2.2.2.2.2.2.2.1) (x.2.2.2.2.2.2.2.2.2.2.2.2.2.2.2.2.2.1) (x.2.2.2.2.2.2.2.2.2.2.2.2.2.2.2.2.2.2.1) (x.2.2.2.2.2.2.2.2.2.2.2.2.2.2.2.2.2.2.2.1) (x.2.2.2.2.2.2.2.2.2.2.2.2.2.2.2.2.2.2.2.2.1) (x.2.2.2.2.2.2.2.2.2.2.2.2.2.2.2.2.2.2.2.2.2.1) (x.2.2.2.2.2.2.2.2.2.2.2.2.2.2.2.2.2.2.2.2.2.2.1) (x.2.2.2.2.2.2.2.2.2.2.2.2.2.2.2.2.2.2.2.2.2.2.2.1) (x.2.2.2.2.2.2.2.2.2.2.2.2.2.2.2.2.2.2.2.2.2.2.2.2.1) (x.2.2.2.2.2.2.2.2.2.2.2.2.2.2.2.2.2.2.2.2.2.2.2.2.2.1) (x.2.2.2.2.2.2.2.2.2.2.2.2.2.2.2.2.2.2.2.2.2.2.2.2.2.2.1) (x.2.2.2.2.2.2.2.2.2.2.2.2.2.2.2.2.2.2.2.2.2.2.2.2.2.2.2.1) (x.2.2.2.2.2.2.2.2.2.2.2.2.2.2.2.2.2.2.2.2.2.2.2.2.2.2.2.2.1) (x.2.2.2.2.2.2.2.2.2.2.2.2.2.2.2.2.2.2.2.2.2.2.2.2.2.2.2.2.2.1) (x.2.2.2.2.2.2.2.2.2.2.2.2.2.2.2.2.2.2.2.2.2.2.2.2.2.2.2.2.2.2.1) (x.2.2.2.2.2.2.2.2.2.2.2.2.2.2.2.2.2.2.2.2.2.2.2.2.2.2.2.2.2.2.2.1) (x.2.2.2.2.2.2.2.2.2.2.2.2.2.2.2.2.2.2.2.2.2.2.2.2.2.2.2.2.2.2.2.2.1) (x.2.2.2.2.2.2.2.2.2.2.2.2.2.2.2.2.2.2.2.2.2.2.2.2.2.2.2.2.2.2.2.2.2.1) (x.2.2.2.2.2.2.2.2.2.2.2.2.2.2.2.2.2.2.2.2.2.2.2.2.2.2.2.2.2.2.2.2.2.2.1) (x.2.2.2.2.2.2.2.2.2.2.2.2.2.2.2.2.2.2.2.2.2.2.2.2.2.2.2.2.2.2.2.2.2.2.2.1) (x.2.2.2.2.2.2.2.2.2.2.2.2.2.2.2.2.2.2.2.2.2.2.2.2.2.2.2.2.2.2.2.2.2.2.2.2)
@[irreducible] noncomputable def w := cX.1
@[irreducible] noncomputable def p := cX.2.1
@[irreducible] noncomputable def loose := cX.2.2.1
@[irreducible] noncomputable def mean := cX.2.2.2.1
@[irreducible] noncomputable def mg := cX.2.2.2.2.1
@[irreducible] noncomputable def mb := cX.2.2.2.2.2.1
@[irreducible] noncomputable def r := cX.2.2.2.2.2.2.1
@[irreducible] noncomputable def plan := cX.2.2.2.2.2.2.2.1
@[irreducible] noncomputable def bl := cX.2.2.2.2.2.2.2.2.1
@[irreducible] noncomputable def n := cX.2.2.2.2.2.2.2.2.2.1
@[irreducible] noncomputable def f := cX.2.2.2.2.2.2.2.2.2.2.1
@[irreducible] noncomputable def dp := cX.2.2.2.2.2.2.2.2.2.2.2.1
@[irreducible] noncomputable def un := cX.2.2.2.2.2.2.2.2.2.2.2.2.1
@[irreducible] noncomputable def gd := cX.2.2.2.2.2.2.2.2.2.2.2.2.2.1
@[irreducible] noncomputable def cn := cX.2.2.2.2.2.2.2.2.2.2.2.2.2.2.1
@[irreducible] noncomputable def cs := cX.2.2.2.2.2.2.2.2.2.2.2.2.2.2.2.1
@[irreducible] noncomputable def a := cX.2.2.2.2.2.2.2.2.2.2.2.2.2.2.2.2.1
@[irreducible] noncomputable def ccd := cX.2.2.2.2.2.2.2.2.2.2.2.2.2.2.2.2.2.1
@[irreducible] noncomputable def cl := cX.2.2.2.2.2.2.2.2.2.2.2.2.2.2.2.2.2.2.1
@[irreducible] noncomputable def outer := cX.2.2.2.2.2.2.2.2.2.2.2.2.2.2.2.2.2.2.2.1
@[irreducible] noncomputable def A₀ := cX.2.2.2.2.2.2.2.2.2.2.2.2.2.2.2.2.2.2.2.2.1
@[irreducible] noncomputable def base := cX.2.2.2.2.2.2.2.2.2.2.2.2.2.2.2.2.2.2.2.2.2.1
@[irreducible] noncomputable def h₀ := cX.2.2.2.2.2.2.2.2.2.2.2.2.2.2.2.2.2.2.2.2.2.2.1
@[irreducible] noncomputable def L := cX.2.2.2.2.2.2.2.2.2.2.2.2.2.2.2.2.2.2.2.2.2.2.2.1
@[irreducible] noncomputable def m := cX.2.2.2.2.2.2.2.2.2.2.2.2.2.2.2.2.2.2.2.2.2.2.2.2.1
@[irreducible] noncomputable def s := cX.2.2.2.2.2.2.2.2.2.2.2.2.2.2.2.2.2.2.2.2.2.2.2.2.2.1
@[irreducible] noncomputable def Q := cX.2.2.2.2.2.2.2.2.2.2.2.2.2.2.2.2.2.2.2.2.2.2.2.2.2.2.1
@[irreducible] noncomputable def E := cX.2.2.2.2.2.2.2.2.2.2.2.2.2.2.2.2.2.2.2.2.2.2.2.2.2.2.2.1
@[irreducible] noncomputable def z := cX.2.2.2.2.2.2.2.2.2.2.2.2.2.2.2.2.2.2.2.2.2.2.2.2.2.2.2.2.1
@[irreducible] noncomputable def nz := cX.2.2.2.2.2.2.2.2.2.2.2.2.2.2.2.2.2.2.2.2.2.2.2.2.2.2.2.2.2.1
@[irreducible] noncomputable def vh := cX.2.2.2.2.2.2.2.2.2.2.2.2.2.2.2.2.2.2.2.2.2.2.2.2.2.2.2.2.2.2.1
@[irreducible] noncomputable def ve := cX.2.2.2.2.2.2.2.2.2.2.2.2.2.2.2.2.2.2.2.2.2.2.2.2.2.2.2.2.2.2.2.1
@[irreducible] noncomputable def ne := cX.2.2.2.2.2.2.2.2.2.2.2.2.2.2.2.2.2.2.2.2.2.2.2.2.2.2.2.2.2.2.2.2.1
@[irreducible] noncomputable def θ := cX.2.2.2.2.2.2.2.2.2.2.2.2.2.2.2.2.2.2.2.2.2.2.2.2.2.2.2.2.2.2.2.2.2.1
@[irreducible] noncomputable def S0 := cX.2.2.2.2.2.2.2.2.2.2.2.2.2.2.2.2.2.2.2.2.2.2.2.2.2.2.2.2.2.2.2.2.2.2.1
@[irreducible] noncomputable def k := cX.2.2.2.2.2.2.2.2.2.2.2.2.2.2.2.2.2.2.2.2.2.2.2.2.2.2.2.2.2.2.2.2.2.2.2.1
@[irreducible] noncomputable def tkk := cX.2.2.2.2.2.2.2.2.2.2.2.2.2.2.2.2.2.2.2.2.2.2.2.2.2.2.2.2.2.2.2.2.2.2.2.2
theorem core : St w p loose mean mg mb r plan bl n f dp un gd cn cs a ccd cl outer A₀ base h₀ L m s Q E z nz vh ve ne θ S0 k tkk := by
  unfold St
  intro d O IH
  unfold FinB RBody Pr
  intro B F X T hk N hvh hve hS hR hz h0 h1 hpre hd hu ret
  revert X; k_fill; intro X
  have hp : k.toNat < n := by omega
  have hEx : ∀ q ∈ r.ex w n z #[] nz vh ve ne ++ [r.thD w θ k.toNat, (r.x k.toNat, instObj 78 (r.d k.toNat))], q ∈ r.all w n z #[] nz vh ve ne θ := (fun q hq => by
    rcases List.mem_append.mp hq with hq | hq
    · exact List.mem_append_left _ hq
    · replace hq := mem_ors hq
      rcases hq with rfl | rfl
      · exact List.mem_append_right _ (r.ths_d hp)
      · exact List.mem_append_right _ (r.ths_ro hp (.head _)))
  obtain ⟨R, N2, hoff, hs, hs2⟩ := split_news (Ex := r.ex w n z #[] nz vh ve ne ++ [r.thD w θ k.toNat, (r.x k.toNat, instObj 78 (r.d k.toNat))]) N hEx
  have hAdr : ∀ b ∈ ((r.ex w n z #[] nz vh ve ne ++ [r.thD w θ k.toNat, (r.x k.toNat, instObj 78 (r.d k.toNat))]) ++ R).map (·.1), b ∈ r.adrs n z := fun b hb => by
    obtain ⟨q', hq', e4⟩ := List.mem_map.mp hb
    rw [← e4]
    exact RealA.mem_adrs ((List.mem_append.mp hq').elim (hEx q') (hs2 q'))
  have hcnt := hpre.2.1
  have hdst := hR.dest k.toNat hp
  refine wpAny_call ?_
  k_dflt (refine' code_defG2 B F N2 hoff X T ?kA ?kF ?kK ?ko ?kc ?kr ?kb ?kl ?_ ?c1 ?c2 ?c3 ?c4)
  case kA => exact rfl
  case kF => exact rfl
  case kK => assumption
  case ko => k_dflt k_is
  case kc => k_dflt k_is
  case kr => ktr_room
  case kb => exact BindsTo.of_eq rfl
  case kl => exact locs rfl
  case c1 => exact rfl
  case c2 => exact rfl
  case c3 => exact rfl
  case c4 => decide
  intro g g₁ L' h₁ hReb ⟨GB, GX, GT, kg⟩ FG F' N' B' X' T' l1 l2 lL
  have hlt : ∀ q ∈ r.ths w n θ, q.1 < L' := fun q hq => by
    rcases List.mem_append.mp (hs q (List.mem_append_right _ hq)) with h | h
    · exact l1 q h
    · exact l2 q h
  obtain ⟨y1, y2⟩ := O.bless k.toNat hp
  have hne1 : @Ne Nat (r.x k.toNat) (r.d k.toNat) := Ne.symm (O.dro _ _ hp hp).1
  have hnd : ∀ b ∈ r.adr, @Ne Nat b (r.d k.toNat) := fun b hb e => O.dadr _ hp (e ▸ hb)
  simp only [List.forall_mem_cons, List.forall_mem_nil, and_true] at hnd
  (repeat ((have hq9 := And.left hnd); (replace hnd := And.right hnd)))
  have hne2 : @Ne Nat z (r.d k.toNat) := (hz.2 _ hp).1
  have N'0 := N'
  dsimp only [RealA.ex, RealA.thD, RealA.all, Th.obj] at N' l1
  dsimp only [List.cons_append, List.nil_append] at N' l1
  k_lt l1
  cases ebl : bl.getD k.toNat false with
  | false =>
    have hbv := y2 ebl
    simp only [hbv, hcnt] at N'
    repeat' ((fail_if_success (with_reducible show LeaveK _ _ _ _ _ _ _)); first | (k_unfold; (try dsimp only)) | walk1 | (dsimp only; walk1) | fail "no step")
    have F10 := hReb.fr F'
    have NR : News g L' _ R := fun q hq => ⟨F'.keep _ _ (hReb.rest q hq).1, Nat.ne_of_lt (hReb.rest q hq).2.1, (hReb.rest q hq).2.2⟩
    have hfa : finA plan bl f S0 k = S0 := by unfold finA; rw [if_neg (by rw [ebl]; simp)]
    dsimp only at ret; rw [hfa] at ret
    have Nall := refocus (z' := z) (zs' := #[]) (nz' := nz) (vh' := vh) (ve' := ve) (ne' := ne) (θ' := θ) O hz hp (hReb.ex (Ex := r.ex w n z #[] nz vh ve ne ++ [r.thD w θ k.toNat, (r.x k.toNat, instObj 78 (r.d k.toNat))]) N'0) NR hs (fun q hq => Or.inr (List.mem_append_right _ hq)) (fun q hq => List.mem_append_left _ hq) (List.mem_append_right _ (.head _)) (fun _ _ _ => rfl)
    clear F' N' N'0
    repeat' (first | (k_unfold; (try dsimp only)) | walk1 | (dsimp only; walk1) | fail "no step")
    rename Keep _ _ _ => kp
    exact ret _ _ _ _ _ _ _ _ (by k_asm) (by k_asm) hvh hve hR hz ⟨⟨fun _ _ _ _ => rfl, fun j _ _ h3 h4 => by rw [h3] at h4; cases h4⟩, hcnt, rfl, rfl, rfl⟩ (.inl rfl) (kp.mono hAdr)
  | true =>
    obtain ⟨tbl, hbv⟩ := y1 ebl
    cases ed : S0.done.getD k.toNat false with
    | true =>
      rw [ed] at hdst
      simp only [hbv, hcnt, hdst] at N'
      repeat' ((fail_if_success (with_reducible show LeaveK _ _ _ _ _ _ _)); first | (k_unfold; (try dsimp only)) | walk1 | (dsimp only; walk1) | fail "no step")
      have F10 := hReb.fr F'
      have NR : News g L' _ R := fun q hq => ⟨F'.keep _ _ (hReb.rest q hq).1, Nat.ne_of_lt (hReb.rest q hq).2.1, (hReb.rest q hq).2.2⟩
      have hfa : finA plan bl f S0 k = S0 := by unfold finA; rw [if_neg (by rw [ed]; simp)]
      dsimp only at ret; rw [hfa] at ret
      have Nall := refocus (z' := z) (zs' := #[]) (nz' := nz) (vh' := vh) (ve' := ve) (ne' := ne) (θ' := θ) O hz hp (hReb.ex (Ex := r.ex w n z #[] nz vh ve ne ++ [r.thD w θ k.toNat, (r.x k.toNat, instObj 78 (r.d k.toNat))]) N'0) NR hs (fun q hq => Or.inr (List.mem_append_right _ hq)) (fun q hq => List.mem_append_left _ hq) (List.mem_append_right _ (.head _)) (fun _ _ _ => rfl)
      clear F' N' N'0
      repeat' (first | (k_unfold; (try dsimp only)) | walk1 | (dsimp only; walk1) | fail "no step")
      rename Keep _ _ _ => kp
      exact ret _ _ _ _ _ _ _ _ (by k_asm) (by k_asm) hvh hve hR hz ⟨⟨fun _ _ _ _ => rfl, fun j _ _ h3 h4 => by rw [h3] at h4; cases h4⟩, hcnt, rfl, rfl, rfl⟩ (.inl rfl) (kp.mono hAdr)
    | false =>
      rw [ed] at hdst
      simp only [hbv, hcnt, hdst] at N'
      clear N'0
      repeat' ((fail_if_success (with_reducible show wpAny _ _ (call (Value.ref _) _) _ _ _)); first | (k_unfold; (try dsimp only)) | walk1 | (dsimp only; walk1) | fail "no step")
      rename News _ _ _ _ => N9
      rename Fr _ _ _ _ => F9
      have hh := hpre.1
      have NR : News g L' _ R := fun q hq => ⟨F9.keep _ _ (hReb.rest q hq).1, Nat.ne_of_lt (hReb.rest q hq).2.1, (hReb.rest q hq).2.2⟩
      obtain ⟨t, ht, e1, e2, e3, e4, e5⟩ := news_th w.params (r.d k.toNat) N9 (by k_mem)
      rw [← hbv] at ht
      have N1 : News g L' _ (r.ex w n z #[] nz vh ve ne) := hReb.ex (news_sub N9 (by dsimp only [RealA.ex]; lcg_sub))
      have N3 : News g L' _ [(r.x k.toNat, instObj 78 (r.d k.toNat))] := hReb.ex (news_sub N9 (by lcg_sub))
      have Nall := refocusU O hz hp N1 (hReb.ex ht) N3 NR hs
      have F10 := hReb.fr F9
      have hS1 : Mine.S.Len { S0 with done := S0.done.set k.toNat true } n := ⟨hS.held, by simp [hS.done], hS.freed, Nat.le_trans hS.log (by rw [ct_set ed (by rw [hS.done]; exact hp)]; omega)⟩
      have hR1 := relR_mark (t := t) hR hS.done hp hh e2 e5
      have IH' := IH
      unfold DestR RSpec at IH'
      k_dflt (refine' IH' _ _ _ _ _ _ _ _ _ _ _ _ _ _ _ _ _ z nz vh ve ne (upd θ k.toNat t) { S0 with done := S0.done.set k.toNat true } k 0 GB F10 GX GT ?k5 Nall hvh hve hS1 hR1 hz h0 h1 ⟨?kp, hpre.2.2⟩ ?kd ?ku ?_)
      case k5 => rfl
      case kp => have := hS.log; show S0.log.length + 1 ≤ (S0.done.set k.toNat true).count true; rw [ct_set ed (by rw [hS.done]; exact hp)]; omega
      case kd => ktr_room
      case ku => ktr_units
      intro h3 tk3 z3 nz3 vh3 ve3 ne3 θ3 F3 N4 c1 c2 c3 c4 c5 c6 kp3
      have hz3 : z3 = z ∨ s.heap.get? z3 = none := c6.imp id fun e => fresh_back kg hAdr F10.keep Nall e
      have e6 : θ3 k.toNat = t := (c5.1 _ hp hh).trans upd_self
      obtain ⟨g2, R2, hReb2, F4, N5, ho5, hs5, hs6⟩ := reopen (k := k.toNat) (Xr := [(r.x k.toNat, instObj 78 (r.d k.toNat))]) (Y := []) F3 N4 hp (fun q hq => by rcases List.mem_cons.mp hq with rfl | hq; exact .head _; cases hq) (RealA.ths_lt hlt) (fun _ h => nomatch h) (fun _ _ _ h => nomatch h)
      have X2 := GX.keeps hReb2.sub
      have T2 := GT.keeps hReb2.sub
      have B2 := below_up GB hReb2
      have hne3 : @Ne Nat z3 (r.d k.toNat) := (c4.2 _ hp).1
      clear N9 F9 F10 Nall N1 N3 NR ht X' T' B'
      dsimp only [RealA.ex, RealA.thD, RealA.all, Th.obj] at N5
      dsimp only [List.cons_append, List.nil_append] at N5
      simp only [e6, e1, e2, hbv] at N5
      dsimp only
      repeat' ((fail_if_success (with_reducible show LeaveK _ _ _ _ _ _ _)); first | (k_unfold; (try dsimp only)) | walk1 | (dsimp only; walk1) | fail "no step")
      rename News _ _ _ _ => N9
      rename Fr _ _ _ _ => F9
      have NR : News g L' _ R2 := fun q hq => ⟨F9.keep _ _ (hReb2.rest q hq).1, Nat.ne_of_lt (hReb2.rest q hq).2.1, (hReb2.rest q hq).2.2⟩
      obtain ⟨t2, ht2, d1, d2, d3, d4, d5⟩ := news_th w.params (r.d k.toNat) N9 (by k_mem)
      rw [← hbv] at ht2
      have N1 : News g L' _ (r.ex w n z3 #[] nz3 vh3 ve3 ne3) := hReb2.ex (news_sub N9 (by dsimp only [RealA.ex]; lcg_sub))
      have N3 : News g L' _ [(r.x k.toNat, instObj 78 (r.d k.toNat))] := hReb2.ex (news_sub N9 (by lcg_sub))
      have Nall := refocusU O c4 hp N1 (hReb2.ex ht2) N3 NR hs5
      have F10 := hReb2.fr F9
      have hfa : finA plan bl f S0 k = destA plan bl f { S0 with done := S0.done.set k.toNat true } k := by unfold finA; rw [if_pos (by rw [ebl, ed]; rfl)]; rfl
      have hh3 : (destA plan bl f { S0 with done := S0.done.set k.toNat true } k).held.getD k.toNat false = false := fold_mono _ _ hh
      dsimp only at ret
      rw [hfa] at ret
      clear N9 F9 X2 T2 B2 N1 N3
      repeat' (first | (k_unfold; (try dsimp only)) | walk1 | (dsimp only; walk1) | fail "no step")
      rename Keep _ _ _ => kp
      refine ret _ _ _ _ _ _ _ _ (by k_asm) (by k_asm) c1 c2 (relR_same c3 hh3 (by rw [d2, e6, e2]) (by rw [d5, e6])) c4 ⟨⟨fun j hj hjk h4 => ?_, fun j hj hjk h4 h5 => ?_⟩, ?_, ?_, ?_, ?_⟩ hz3 (kp.mono hAdr)
      · rw [upd_ne hjk, c5.1 j hj h4, upd_ne hjk]
      · rw [upd_ne hjk]; exact c5.2 j hj h4 h5
      · rw [upd_self, d1]; rfl
      · rw [upd_self, d3, e3]
      · rw [upd_self, d4, e4]
      · rw [upd_self, d5, e5]
theorem all (x : XX) : St (x.1) (x.2.1) (x.2.2.1) (x.2.2.2.1) (x.2.2.2.2.1) (x.2.2.2.2.2.1) (x.2.2.2.2.2.2.1) (x.2.2.2.2.2.2.2.1) (x.2.2.2.2.2.2.2.2.1) (x.2.2.2.2.2.2.2.2.2.1) (x.2.2.2.2.2.2.2.2.2.2.1) (x.2.2.2.2.2.2.2.2.2.2.2.1) (x.2.2.2.2.2.2.2.2.2.2.2.2.1) (x.2.2.2.2.2.2.2.2.2.2.2.2.2.1) (x.2.2.2.2.2.2.2.2.2.2.2.2.2.2.1) (x.2.2.2.2.2.2.2.2.2.2.2.2.2.2.2.1) (x.2.2.2.2.2.2.2.2.2.2.2.2.2.2.2.2.1) (x.2.2.2.2.2.2.2.2.2.2.2.2.2.2.2.2.2.1) (x.2.2.2.2.2.2.2.2.2.2.2.2.2.2.2.2.2.2.1) (x.2.2.2.2.2.2.2.2.2.2.2.2.2.2.2.2.2.2.2.1) (x.2.2.2.2.2.2.2.2.2.2.2.2.2.2.2.2.2.2.2.2.1) (x.2.2.2.2.2.2.2.2.2.2.2.2.2.2.2.2.2.2.2.2.2.1) (x.2.2.2.2.2.2.2.2.2.2.2.2.2.2.2.2.2.2.2.2.2.2.1) (x.2.2.2.2.2.2.2.2.2.2.2.2.2.2.2.2.2.2.2.2.2.2.2.1) (x.2.2.2.2.2.2.2.2.2.2.2.2.2.2.2.2.2.2.2.2.2.2.2.2.1) (x.2.2.2.2.2.2.2.2.2.2.2.2.2.2.2.2.2.2.2.2.2.2.2.2.2.1) (x.2.2.2.2.2.2.2.2.2.2.2.2.2.2.2.2.2.2.2.2.2.2.2.2.2.2.1) (x.2.2.2.2.2.2.2.2.2.2.2.2.2.2.2.2.2.2.2.2.2.2.2.2.2.2.2.1) (x.2.2.2.2.2.2.2.2.2.2.2.2.2.2.2.2.2.2.2.2.2.2.2.2.2.2.2.2.1) (x.2.2.2.2.2.2.2.2.2.2.2.2.2.2.2.2.2.2.2.2.2.2.2.2.2.2.2.2.2.1) (x.2.2.2.2.2.2.2.2.2.2.2.2.2.2.2.2.2.2.2.2.2.2.2.2.2.2.2.2.2.2.1) (x.2.2.2.2.2.2.2.2.2.2.2.2.2.2.2.2.2.2.2.2.2.2.2.2.2.2.2.2.2.2.2.1) (x.2.2.2.2.2.2.2.2.2.2.2.2.2.2.2.2.2.2.2.2.2.2.2.2.2.2.2.2.2.2.2.2.1) (x.2.2.2.2.2.2.2.2.2.2.2.2.2.2.2.2.2.2.2.2.2.2.2.2.2.2.2.2.2.2.2.2.2.1) (x.2.2.2.2.2.2.2.2.2.2.2.2.2.2.2.2.2.2.2.2.2.2.2.2.2.2.2.2.2.2.2.2.2.2.1) (x.2.2.2.2.2.2.2.2.2.2.2.2.2.2.2.2.2.2.2.2.2.2.2.2.2.2.2.2.2.2.2.2.2.2.2.1) (x.2.2.2.2.2.2.2.2.2.2.2.2.2.2.2.2.2.2.2.2.2.2.2.2.2.2.2.2.2.2.2.2.2.2.2.2) := eps_all (ne := neX) (P := fun x => St (x.1) (x.2.1) (x.2.2.1) (x.2.2.2.1) (x.2.2.2.2.1) (x.2.2.2.2.2.1) (x.2.2.2.2.2.2.1) (x.2.2.2.2.2.2.2.1) (x.2.2.2.2.2.2.2.2.1) (x.2.2.2.2.2.2.2.2.2.1) (x.2.2.2.2.2.2.2.2.2.2.1) (x.2.2.2.2.2.2.2.2.2.2.2.1) (x.2.2.2.2.2.2.2.2.2.2.2.2.1) (x.2.2.2.2.2.2.2.2.2.2.2.2.2.1) (x.2.2.2.2.2.2.2.2.2.2.2.2.2.2.1) (x.2.2.2.2.2.2.2.2.2.2.2.2.2.2.2.1) (x.2.2.2.2.2.2.2.2.2.2.2.2.2.2.2.2.1) (x.2.2.2.2.2.2.2.2.2.2.2.2.2.2.2.2.2.1) (x.2.2.2.2.2.2.2.2.2.2.2.2.2.2.2.2.2.2.1) (x.2.2.2.2.2.2.2.2.2.2.2.2.2.2.2.2.2.2.2.1) (x.2.2.2.2.2.2.2.2.2.2.2.2.2.2.2.2.2.2.2.2.1) (x.2.2.2.2.2.2.2.2.2.2.2.2.2.2.2.2.2.2.2.2.2.1) (x.2.2.2.2.2.2.2.2.2.2.2.2.2.2.2.2.2.2.2.2.2.2.1) (x.2.2.2.2.2.2.2.2.2.2.2.2.2.2.2.2.2.2.2.2.2.2.2.1) (x.2.2.2.2.2.2.2.2.2.2.2.2.2.2.2.2.2.2.2.2.2.2.2.2.1) (x.2.2.2.2.2.2.2.2.2.2.2.2.2.2.2.2.2.2.2.2.2.2.2.2.2.1) (x.2.2.2.2.2.2.2.2.2.2.2.2.2.2.2.2.2.2.2.2.2.2.2.2.2.2.1) (x.2.2.2.2.2.2.2.2.2.2.2.2.2.2.2.2.2.2.2.2.2.2.2.2.2.2.2.1) (x.2.2.2.2.2.2.2.2.2.2.2.2.2.2.2.2.2.2.2.2.2.2.2.2.2.2.2.2.1) (x.2.2.2.2.2.2.2.2.2.2.2.2.2.2.2.2.2.2.2.2.2.2.2.2.2.2.2.2.2.1) (x.2.2.2.2.2.2.2.2.2.2.2.2.2.2.2.2.2.2.2.2.2.2.2.2.2.2.2.2.2.2.1) (x.2.2.2.2.2.2.2.2.2.2.2.2.2.2.2.2.2.2.2.2.2.2.2.2.2.2.2.2.2.2.2.1) (x.2.2.2.2.2.2.2.2.2.2.2.2.2.2.2.2.2.2.2.2.2.2.2.2.2.2.2.2.2.2.2.2.1) (x.2.2.2.2.2.2.2.2.2.2.2.2.2.2.2.2.2.2.2.2.2.2.2.2.2.2.2.2.2.2.2.2.2.1) (x.2.2.2.2.2.2.2.2.2.2.2.2.2.2.2.2.2.2.2.2.2.2.2.2.2.2.2.2.2.2.2.2.2.2.1) (x.2.2.2.2.2.2.2.2.2.2.2.2.2.2.2.2.2.2.2.2.2.2.2.2.2.2.2.2.2.2.2.2.2.2.2.1) (x.2.2.2.2.2.2.2.2.2.2.2.2.2.2.2.2.2.2.2.2.2.2.2.2.2.2.2.2.2.2.2.2.2.2.2.2)) (by with_unfolding_all exact core) x
end C_fin_of_destB
theorem fin_of_destB {w : World}
  {p : Program}
  {loose : List PySem.Str}
  {mean : ExcName → Option Value}
  {mg mb : PySem.Str → Option Value}
  {r : RealA}
  {plan : List (List Int)}
  {bl : List Bool}
  {n : Nat}
  (O : RealOk w r plan bl n)
  {f d : Nat}
  {dp un : Nat}
  {gd : Option (List Code)}
  {cn : PySem.Str}
  {cs : Scope}
  {a : Addr}
  {ccd : Value}
  {cl : List (PySem.Str × Addr)}
  {outer : List Env}
  {A₀ : Around}
  {base h₀ : Heap}
  {L : Addr}
  {m : PySem.Str → Option Value}
  {s : Shared}
  {Q E : Value → Shared → Prop}
  {z : Addr}
  {nz : Nat}
  {vh ve : List Value}
  {ne : Nat}
  {θ : Nat → Th}
  {S : S}
  {k : Int}
  {tkk : Tok}
  (IH : DestR w p loose mean mg mb r plan bl n f d) : FinB w p loose mean mg mb r plan bl n f (d + 1) dp un gd cn cs a ccd cl outer A₀ base h₀ L m s Q E z nz vh ve ne θ S k tkk :=
  C_fin_of_destB.all (w, p, loose, mean, mg, mb, r, plan, bl, n, f, dp, un, gd, cn, cs, a, ccd, cl, outer, A₀, base, h₀, L, m, s, Q, E, z, nz, vh, ve, ne, θ, S, k, tkk) d O IH
theorem fin_of_dest {w : World} {p : Program} {loose : List PySem.Str} {mean : ExcName → Option Value} {mg mb : PySem.Str → Option Value} {r : RealA} {plan : List (List Int)} {bl : List Bool} {n : Nat} (O : RealOk w r plan bl n) {f d : Nat}
    (IH : DestR w p loose mean mg mb r plan bl n f d) : FinR w p loose mean mg mb r plan bl n f (d + 1) := by
  unfold FinR RSpec
  intro dp un gd cn cs a ccd cl outer A₀ base h₀ L m s Q E z nz vh ve ne θ S k tkk
  exact fin_of_destB (tkk := tkk) O IH
end Mine
end
theorem Mine.rs_o3 {w : PySem.World} {p : PySem.Program} {A : PySem.Around} {q : PySem.Pos} {e : PySem.Env} {Q : PySem.Flow → PySem.Shared → Prop} {E : PySem.Value → PySem.Shared → Prop} {s : PySem.Shared} (h : PySem.wpAny (PySem.model p w) A (PySem.exec (PySem.Stmt.Pass q) e) Q E s) : PySem.wpAny (PySem.model p w) A (PySem.exec (PySem.Stmt.Pass q) e) Q E s := by
  w_top off
  first | (walk1; exact h) | exact h
section
open PySem PySem.W PyProof.Rows PySem.Calls LSm Mine
local macro_rules | `(tactic| walk_at "eval Name") => `(tactic| (k_here; kc_free; k_dflt (refine' nameX_F ?N ?c ?m ?d ?_ ?a ?b; (case a => rfl); (case b => rfl); (case N => k_asm); (case c => rfl); (case m => k_mem); (case d => k_asm); k_whole)))
local macro_rules | `(tactic| walk_at "subscriptTail") => `(tactic| (k_here; (with_reducible show wpAny _ _ (subscriptTail _ _ (Value.ref _) (Value.int _ _)) _ _ _); k_dflt (refine' Mine.ref_sub ?N ?m ?x ?a ?b ?_ ?h; (case N => k_asm); (case m => k_mem); (case x => with_reducible assumption); (case a => omega); (case b => omega); (case h => with_unfolding_all rfl))))
theorem Mine.rs_Dest : True := by
  w_top off
  trivial
section
open PySem PySem.W PyProof.Rows PySem.Calls LSm
namespace Mine
namespace C_dest_of_letB
noncomputable abbrev XX : Type := (World) × (Program) × (List PySem.Str) × (ExcName → Option Value) × (PySem.Str → Option Value) × (PySem.Str → Option Value) × (RealA) × (List (List Int)) × (List Bool) × (Nat) × (Nat) × (Nat) × (Nat) × (Option (List Code)) × (PySem.Str) × (Scope) × (Addr) × (Value) × (List (PySem.Str × Addr)) × (List Env) × (Around) × (Heap) × (Heap) × (Addr) × (PySem.Str → Option Value) × (Shared) × (Value → Shared → Prop) × (Value → Shared → Prop) × (Addr) × (Nat) × (List Value) × (List Value) × (Nat) × (Nat → Th) × (S) × (Int) × (Tok)
noncomputable def St (w : World) (p : Program) (loose : List PySem.Str) (mean : ExcName → Option Value) (mg : PySem.Str → Option Value) (mb : PySem.Str → Option Value) (r : RealA) (plan : List (List Int)) (bl : List Bool) (n : Nat) (f : Nat) (dp : Nat) (un : Nat) (gd : Option (List Code)) (cn : PySem.Str) (cs : Scope) (a : Addr) (ccd : Value) (cl : List (PySem.Str × Addr)) (outer : List Env) (A₀ : Around) (base : Heap) (h₀ : Heap) (L : Addr) (m : PySem.Str → Option Value) (s : Shared) (Q : Value → Shared → Prop) (E : Value → Shared → Prop) (z : Addr) (nz : Nat) (vh : List Value) (ve : List Value) (ne : Nat) (θ : Nat → Th) (S : S) (k : Int) (tkk : Tok) : Prop :=
  ∀ (d : Nat) (O : RealOk w r plan bl n) (IH : LetR w p loose mean mg mb r plan bl n f d), DestB w p loose mean mg mb r plan bl n f (d + 1) dp un gd cn cs a ccd cl outer A₀ base h₀ L m s Q E z nz vh ve ne θ S k tkk
theorem neX : Nonempty XX := by
  refine ⟨?_⟩
  repeat' (first | exact default | exact aWorld 1 | constructor | intro _)
noncomputable def cX : XX := @Classical.epsilon XX neX fun x => ¬ St (x.1) (x.2.1) (x.2.2.1) (x.2.2.2.1) (x.2.2.2.2.1) (x.2.2.2.2.2.1) (x.2.2.2.2.2.2.1) (x.2.2.2.2.2.2.2.1) (x.2.2.2.2.2.2.2.2.1) (x.2.2.2.2.2.2.2.2.2.1) (x.2.2.2.2.2.2.2.2.2.2.1) (x.2.2.2.2.2.2.2.2.2.2.2.1) (x.2.2.2.2.2.2.2.2.2.2.2.2.1) (x.2.2.2.2.2.2.2.2.2.2.2.2.2.1) (x.2.2.2.2.2.2.2.2.2.2.2.2.2.2.1) (x.2.2.2.2.2.2.2.2.2.2.2.2.2.2.2.1) (x.2.2.2.2.2.2.2.2.2.2.2.2.2.2.2.2.1) (x.2.2.2.2.2.2.2.2.2.2.2.2.2.2.2.2.2.1) (x.2.2.2.2.2.2.2.2.2.2.2.2.2.2.2.2.2.2.1) (x.2.2.2.2.2.2.2.2.2.2.2.2.2.2.2.2.2.2.2.1) (x.2.2.2.2.2.2.2.2.2.2.2.2.2.2.2.2.2.2.2.2.1) (x.2.2.2.2.2.2.2.2.2.2.2.2.2.2.2.2.2.2.2.2.2.1) (x.2.2.2.2.2.2.2.2.2.2.2.2.2.2.2.2.2.2.2.2.2.2.1) (x.2.2.2.2.2.2.2.2.2.2.2.2.2.2.2.2.2.2.2.2.2.2.2.1) (x.2.2.2.2.2.2.2.2.2.2.2.2.2.2.2.2.2.2.2.2.2.2.2.2.1) (x.2.2.2.2.2.2.2.2.2.2.2.2.2.2.2.2.2.2.2.2.2.2.2.2.2.1) (x.2.2.2.2.2.2.2.2.2.2.2.2.2.2.2.2.2.2.2.2.2.2.2.2.2.2.1) (x.2.2.2.2.2.2.2.2.2.2.2.2.2.2.2.2.2.2.2.2.2.2.2.2.2.2.2.1) (x.2.2.2.2.2.2.2.2.2.2.2.2.2.2.2.2.2.2.2.2.2.2.2.2.2.2.2.2.1) (x.2.2.2.2.2.2.2.2.2.2.2.2.2.2.2.2.2.2.2.2.2.2.2.2.2.2.2.2.2.1) (x.2.2.2.2.2.2.2.2.2.2.2.2.2.2.2.2.2.2.2.2.2.2.2.2.2.2.2.2.2.2.1) (x.2.2.2.2.2.2.2.2.2.2.2.2.2.2.2.2.2.2.2.2.2.2.2.2.2.2.2.2.2.2.2.1) (x.2.2.2.2.2.2.2.2.2.2.2.2.2.2.2.2.2.2.2.2.2.2.2.2.2.2.2.2.2.2.2.2.1) (x.2.2.2.2.2.2.2.2.2.2.2.2.2.2.2.2.2.2.2.2.2.2.2.2.2.2.2.2.2.2.2.2.2.1) (x.2.2.2.2.2.2.2.2.2.2.2.2.2.2.2.2.2.2.2.2.2.2.2.2.2.2.2.2.2.2.2.2.2.2.1) (x.2.2.2.2.2.2.2.2.2.2.2.2.2.2.2.2.2.2.2.2.2.2.2.2.2.2.2.2.2.2.2.2.2.2.2.1) (x.2.2.2.2.2.2.2.2.2.2.2.2.2.2.2.2.2.2.2.2.2.2.2.2.2.2.2.2.2.2.2.2.2.2.2.2)
@[irreducible] noncomputable def w := cX.1
@[irreducible] noncomputable def p := cX.2.1
@[irreducible] noncomputable def loose := cX.2.2.1
@[irreducible] noncomputable def mean := cX.2.2.2.1
@[irreducible] noncomputable def mg := cX.2.2.2.2.1
@[irreducible] noncomputable def mb := cX.2.2.2.2.2.1
@[irreducible] noncomputable def r := cX.2.2.2.2.2.2.1
@[irreducible] noncomputable def plan := cX.2.2.2.2.2.2.2.1
@[irreducible] noncomputable def bl := cX.2.2.2.2.2.2.2.2.1
@[irreducible] noncomputable def n := cX.2.2.2.2.2.2.2.2.2.1
@[irreducible] noncomputable def f := cX.2.2.2.2.2.2.2.2.2.2.1
@[irreducible] noncomputable def dp := cX.2.2.2.2.2.2.2.2.2.2.2.1
@[irreducible] noncomputable def un := cX.2.2.2.2.2.2.2.2.2.2.2.2.1
@[irreducible] noncomputable def gd := cX.2.2.2.2.2.2.2.2.2.2.2.2.2.1
@[irreducible] noncomputable def cn := cX.2.2.2.2.2.2.2.2.2.2.2.2.2.2.1
@[irreducible] noncomputable def cs := cX.2.2.2.2.2.2.2.2.2.2.2.2.2.2.2.1
@[irreducible] noncomputable def a := cX.2.2.2.2.2.2.2.2.2.2.2.2.2.2.2.2.1
@[irreducible] noncomputable def ccd := cX.2.2.2.2.2.2.2.2.2.2.2.2.2.2.2.2.2.1
@[irreducible] noncomputable def cl := cX.2.2.2.2.2.2.2.2.2.2.2.2.2.2.2.2.2.2.1
@[irreducible] noncomputable def outer := cX.2.2.2.2.2.2.2.2.2.2.2.2.2.2.2.2.2.2.2.1
@[irreducible] noncomputable def A₀ := cX.2.2.2.2.2.2.2.2.2.2.2.2.2.2.2.2.2.2.2.2.1
@[irreducible] noncomputable def base := cX.2.2.2.2.2.2.2.2.2.2.2.2.2.2.2.2.2.2.2.2.2.1
@[irreducible] noncomputable def h₀ := cX.2.2.2.2.2.2.2.2.2.2.2.2.2.2.2.2.2.2.2.2.2.2.1
@[irreducible] noncomputable def L := cX.2.2.2.2.2.2.2.2.2.2.2.2.2.2.2.2.2.2.2.2.2.2.2.1
@[irreducible] noncomputable def m := cX.2.2.2.2.2.2.2.2.2.2.2.2.2.2.2.2.2.2.2.2.2.2.2.2.1
@[irreducible] noncomputable def s := cX.2.2.2.2.2.2.2.2.2.2.2.2.2.2.2.2.2.2.2.2.2.2.2.2.2.1
@[irreducible] noncomputable def Q := cX.2.2.2.2.2.2.2.2.2.2.2.2.2.2.2.2.2.2.2.2.2.2.2.2.2.2.1
@[irreducible] noncomputable def E := cX.2.2.2.2.2.2.2.2.2.2.2.2.2.2.2.2.2.2.2.2.2.2.2.2.2.2.2.1
@[irreducible] noncomputable def z := cX.2.2.2.2.2.2.2.2.2.2.2.2.2.2.2.2.2.2.2.2.2.2.2.2.2.2.2.2.1
@[irreducible] noncomputable def nz := cX.2.2.2.2.2.2.2.2.2.2.2.2.2.2.2.2.2.2.2.2.2.2.2.2.2.2.2.2.2.1
@[irreducible] noncomputable def vh := cX.2.2.2.2.2.2.2.2.2.2.2.2.2.2.2.2.2.2.2.2.2.2.2.2.2.2.2.2.2.2.1
@[irreducible] noncomputable def ve := cX.2.2.2.2.2.2.2.2.2.2.2.2.2.2.2.2.2.2.2.2.2.2.2.2.2.2.2.2.2.2.2.1
@[irreducible] noncomputable def ne := cX.2.2.2.2.2.2.2.2.2.2.2.2.2.2.2.2.2.2.2.2.2.2.2.2.2.2.2.2.2.2.2.2.1
@[irreducible] noncomputable def θ := cX.2.2.2.2.2.2.2.2.2.2.2.2.2.2.2.2.2.2.2.2.2.2.2.2.2.2.2.2.2.2.2.2.2.1
@[irreducible] noncomputable def S0 := cX.2.2.2.2.2.2.2.2.2.2.2.2.2.2.2.2.2.2.2.2.2.2.2.2.2.2.2.2.2.2.2.2.2.2.1
@[irreducible] noncomputable def k := cX.2.2.2.2.2.2.2.2.2.2.2.2.2.2.2.2.2.2.2.2.2.2.2.2.2.2.2.2.2.2.2.2.2.2.2.1
@[irreducible] noncomputable def tkk := cX.2.2.2.2.2.2.2.2.2.2.2.2.2.2.2.2.2.2.2.2.2.2.2.2.2.2.2.2.2.2.2.2.2.2.2.2
theorem core : St w p loose mean mg mb r plan bl n f dp un gd cn cs a ccd cl outer A₀ base h₀ L m s Q E z nz vh ve ne θ S0 k tkk := by
  unfold St
  intro d O IH
  unfold DestB RBody Pr
  intro B F X T hk N hvh hve hS hR hz h0 h1 hpre hd hu ret
  revert X; k_fill; intro X
  have hp : k.toNat < n := by omega
  have hEx : ∀ q ∈ r.ex w n z #[] nz vh ve ne ++ [r.thD w θ k.toNat, (r.x k.toNat, instObj 78 (r.d k.toNat))], q ∈ r.all w n z #[] nz vh ve ne θ := (fun q hq => by
    rcases List.mem_append.mp hq with hq | hq
    · exact List.mem_append_left _ hq
    · replace hq := mem_ors hq
      rcases hq with rfl | rfl
      · exact List.mem_append_right _ (r.ths_d hp)
      · exact List.mem_append_right _ (r.ths_ro hp (.head _)))
  obtain ⟨R, N2, hoff, hs, hs2⟩ := split_news (Ex := r.ex w n z #[] nz vh ve ne ++ [r.thD w θ k.toNat, (r.x k.toNat, instObj 78 (r.d k.toNat))]) N hEx
  obtain ⟨vsk, tsk, ek1, ek2⟩ := O.ekD
  refine wpAny_call ?_
  k_dflt (refine' callG_plain (qual := PySem.Str.ofString "law" ++ PySem.Str.ofString ".<locals>." ++ PySem.Str.ofString "destroy") B F N2 hoff X T ?kA ?kF ?kK (N (r.fD, r.oD) ?km).1 ?kd ?kc ?kr ?kb ?kl ?_ ?c1 ?c2 ?c3 ?c4)
  case kA => exact rfl
  case kF => exact rfl
  case kK => assumption
  case km => exact List.mem_append_left _ (by k_mem)
  case kd => exact rfl
  case kc => exact codeRec_news N (List.mem_append_left _ (by k_mem) : (r.kD, r.okD) ∈ _) ek1 ek2
  case kr => ktr_room
  case kb => exact BindsTo.of_eq rfl
  case kl => exact locs rfl
  case c1 => decide
  case c2 => exact rfl
  case c3 => exact rfl
  case c4 => exact rfl
  intro g g₁ L' h₁ hReb ⟨GB, GX, GT, kg⟩ FG F' N' B' X' T' l1 l2 lL
  have ecc := O.ecc
  have ecp := O.ecp
  have ech := O.ech
  have ect := O.ect
  have eco := O.eco
  have ecL := O.ecL
  have ece := O.ece
  have hdict := O.dict
  have hn5 := O.small
  obtain ⟨hit1, hit2⟩ := O.items k.toNat hp
  have hl1 := hS.held
  have hl2 := hS.done
  have hl3 := hS.freed
  have hl4 := hS.log
  have hl5 := IntsAre.length hve
  have hl6 := hc_le S0.done
  dsimp only [RealA.ex, RealA.thD, RealA.all] at N' l1
  dsimp only [List.cons_append, List.nil_append] at N' l1
  k_lt l1
  repeat' ((fail_if_success (with_reducible show LCg.CompSrc _ _ _ _ _ _ _ _ _ _ _ _ _ _)); first | (k_unfold; (try dsimp only)) | (k_here; (with_reducible show wpAny _ _ (call (Value.builtin _) [Value.ref _, _]) _ _ _); k_dflt (refine' append_K ?y0k1 ?y0k2 ?y0k3 ?_ ?y0z; (case y0k1 => k_asm); (case y0k2 => k_asm); (case y0k3 => k_upd); (case y0z => ((simp only [List.size_toArray]); (rw [PySem.sizeLine_eq]); unfold Mine.hc at *; omega)); k_whole); intro h' F' N'; (try k_sweep)) | walk1 | (dsimp only; walk1) | fail "no step")
  have look : ∀ (h : Heap) (m₁ : PySem.Str → Option Value) (nw : List (Addr × Obj)), Fr g₁ L' h m₁ → News g₁ L' h nw → (∀ q ∈ r.ex w n z #[] nz vh ve ne ++ [r.thD w θ k.toNat, (r.x k.toNat, instObj 78 (r.d k.toNat))], q ∈ nw) → ∀ q ∈ r.all w n z #[] nz vh ve ne θ, h.get? q.1 = some q.2 := fun h m₁ nw Fh Nh hsub q hq => by
    rcases List.mem_append.mp (hs q hq) with hq | hq
    · exact (Nh q (hsub q hq)).1
    · exact Fh.keep _ _ (hReb.rest q hq).1
  rename Fr _ _ _ _ => F9
  k_dflt (refine' LCg.CompSrc.ledger (its := (r.vt n).toArray) ?hh ?F ?N ?mm ?zz ?_)
  case hh => rfl
  case F => k_asm
  case N => k_asm
  case mm => k_mem
  case zz => rw [List.size_toArray, List.length_map, List.length_range, PySem.sizeLine_eq]; omega
  intro gh
  refine comp_const (G := fun i y => ∃ t : Tok, y = Value.int ((i : Int) + 1) t) ?_ ?_
  · intro i v I oI C oC D m₂ ys h tk E' hi hv hC hx F2 N2' off ne2
    rw [List.size_toArray, List.length_map, List.length_range] at hi
    obtain rfl : v = .ref (r.x i) := by
      have : (r.vt n)[i]? = some v := by simpa using hv
      simp only [List.getElem?_map, List.getElem?_range hi, Option.map_some, Option.some.injEq] at this
      exact this.symm
    have lk := look h _ _ F2 N2' (fun q hq => List.mem_cons_of_mem _ (List.mem_cons_of_mem _ (List.mem_cons_of_mem _ hq)))
    have i1 := lk (r.x i, instObj 78 (r.d i)) (List.mem_append_right _ (r.ths_ro hi (.head _)))
    have i2 := lk (r.thD w θ i) (List.mem_append_right _ (r.ths_d hi))
    (try k_fold)
    repeat' ((fail_if_success (with_reducible show wpAny _ _ (PySem.getAttr _ _ _) _ _ _)); first | (k_unfold; (try dsimp only)) | (k_here; (with_reducible show wpAny _ _ (call (Value.builtin _) [Value.ref _, _]) _ _ _); k_dflt (refine' append_K ?y0k1 ?y0k2 ?y0k3 ?_ ?y0z; (case y0k1 => k_asm); (case y0k2 => k_asm); (case y0k3 => k_upd); (case y0z => ((simp only [List.size_toArray]); (rw [PySem.sizeLine_eq]); unfold Mine.hc at *; omega)); k_whole); intro h' F' N'; (try k_sweep)) | walk1 | (dsimp only; walk1) | fail "no step")
    k_dflt (refine' get_own ?k1 ?k2 (⟨i1, rfl, rfl, i2⟩ : InstAt _ _ _ _ _) ?k4 ?k5 ?k6 ?k7 ?k8 ?k9 ?_)
    case k1 => k_asm
    case k2 => k_asm
    case k4 => k_dflt k_is
    case k5 => k_dflt k_is
    case k6 => k_dflt k_is
    case k7 => k_dflt k_is
    case k8 => k_get
    case k9 => k_handed
    exact LCg.CompEnd.intro F2 N2' _ (fun p hp => hp) off (Or.inr ⟨_, by k_mem, rfl, _, rfl⟩) ⟨rfl, _, rfl⟩
  · intro ys hyl hG
    rw [List.size_toArray, List.length_map, List.length_range] at hyl
    have hI := ints_of hyl hG
    unfold LCg.FinE
    intro D' hD tkD F2 N2' o1
    clear F9
    simp only [LCg.Off1, and_true] at o1
    (repeat ((have hq9 := And.left o1); (replace o1 := And.right o1)))
    dsimp only
    have hlay := nums_lay hn5
    have hmem := nums_mem h0 h1
    have hidx := nums_idx hn5 h0 h1
    (try k_fold)
    repeat' ((fail_if_success (with_reducible show wpAny _ _ (call (Value.builtin "list.index") _) _ _ _)); first | (k_unfold; (try dsimp only)) | (k_here; (with_reducible show wpAny _ _ (call (Value.builtin _) [Value.ref _, _]) _ _ _); k_dflt (refine' append_K ?y0k1 ?y0k2 ?y0k3 ?_ ?y0z; (case y0k1 => k_asm); (case y0k2 => k_asm); (case y0k3 => k_upd); (case y0z => ((simp only [List.size_toArray]); (rw [PySem.sizeLine_eq]); unfold Mine.hc at *; omega)); k_whole); intro h' F' N'; (try k_sweep)) | walk1 | (dsimp only; walk1) | fail "no step")
    refine index_list_ints ⟨_, (N2' (D', LCg.lst ys) (.head _)).1, rfl, _, rfl⟩ hI hlay hmem ?_
    rw [hidx]
    obtain ⟨y1, y2, y3, y4, y5, y6, y7, y8, y9, y10, y11, y12, y13, y14, y15, y16, y17, y18, y19⟩ := RealA.el_ne O.nd
    have y20 : @Ne Nat z r.el := not_mem_ne hz.1 (by first | k_mem | simp)
    have y21 : @Ne Nat (r.d k.toNat) r.el := not_mem_ne (O.dadr _ hp) (by first | k_mem | simp)
    have y22 : @Ne Nat (r.x k.toNat) r.el := not_mem_ne (O.roadr _ hp).1 (by first | k_mem | simp)
    repeat' ((fail_if_success (with_reducible show wpAny _ _ (exec (Stmt.For _ _ _ _ _) _) _ _ _)); first | (k_unfold; (try dsimp only)) | (k_here; (with_reducible show wpAny _ _ (call (Value.builtin _) [Value.ref _, _]) _ _ _); k_dflt (refine' append_K ?y0k1 ?y0k2 ?y0k3 ?_ ?y0z; (case y0k1 => k_asm); (case y0k2 => k_asm); (case y0k3 => k_upd); (case y0z => ((simp only [List.size_toArray]); (rw [PySem.sizeLine_eq]); unfold Mine.hc at *; omega)); k_whole); intro h' F' N'; (try k_sweep)) | walk1 | (dsimp only; walk1) | fail "no step")
    rename News _ _ _ _ => N9
    rename Fr _ _ _ _ => F9
    rw [List.push_toArray] at N9
    have F10 := hReb.fr F9
    (with_unfolding_all refine' For_invVF F10 ?kk1 ?kk2 ?_)
    case kk1 => exact rfl
    case kk2 => exact rfl
    clear F10
    repeat' ((fail_if_success (with_reducible show wpAny _ _ (pyIter _) _ _ _)); first | (k_unfold; (try dsimp only)) | (k_here; (with_reducible show wpAny _ _ (call (Value.builtin _) [Value.ref _, _]) _ _ _); k_dflt (refine' append_K ?y0k1 ?y0k2 ?y0k3 ?_ ?y0z; (case y0k1 => k_asm); (case y0k2 => k_asm); (case y0k3 => k_upd); (case y0z => ((simp only [List.size_toArray]); (rw [PySem.sizeLine_eq]); unfold Mine.hc at *; omega)); k_whole); intro h' F' N'; (try k_sweep)) | walk1 | (dsimp only; walk1) | fail "no step")
    have F8 := F9
    have N8 : News g₁ L' _ ((D', LCg.lst ys) :: (r.ex w n z #[] nz vh (ve ++ [Value.int k _]) (ne + 1) ++ [r.thD w θ k.toNat, (r.x k.toNat, instObj 78 (r.d k.toNat))])) := N9
    have NR : News g L' _ R := fun q hq => ⟨F8.keep _ _ (hReb.rest q hq).1, Nat.ne_of_lt (hReb.rest q hq).2.1, (hReb.rest q hq).2.2⟩
    have Nall := refocus (z' := z) (zs' := #[]) (nz' := nz) (vh' := vh) (ve' := ve ++ [Value.int k _]) (ne' := ne + 1) (θ' := θ) O hz hp (hReb.ex N8) NR hs (fun q hq => Or.inr (List.mem_cons_of_mem _ (List.mem_append_right _ hq))) (fun q hq => List.mem_cons_of_mem _ (List.mem_append_left _ hq)) (List.mem_cons_of_mem _ (List.mem_append_right _ (.head _))) (fun _ _ _ => rfl)
    have F8' := hReb.fr F8
    have hlen1 : Mine.S.Len { S0 with log := S0.log ++ [k] } n := ⟨hS.held, hS.done, hS.freed, by simp only [List.length_append, List.length_singleton]; exact hpre.1⟩
    refine iter_listN (c := r.cq k.toNat) (R := fun us S' nx => ∃ z' nz' vh' ve' ne' θ' ns', nx = r.all w n z' #[] nz' vh' ve' ne' θ' ∧ BoolsAre vh' S'.held ∧ IntsAre ve' S'.log ∧ Mine.S.Len S' n ∧ RelR r n S' θ' ∧ r.Zoff n z' ∧ Left n S0 S' θ θ' ∧ hc S'.held ≤ f ∧ (∀ j, S0.held.getD j false = false → S'.held.getD j false = false) ∧ (z' = z ∨ s.heap.get? z' = none) ∧
      IntsAre us ns' ∧ ∀ q ∈ ns', 0 ≤ q ∧ q < (n : Int)) (stepV plan bl f) { S0 with log := S0.log ++ [k] } (by rfl) F8' Nall (List.mem_append_right _ (r.ths_ro hp (.tail _ (.tail _ (.tail _ (.head _))))))
      ⟨_, _, _, _, _, _, _, rfl, hvh, IntsAre.append hve (.cons k _ .nil), hlen1, ⟨hR.dest, hR.freed, hR.on⟩, hz, ⟨fun _ _ _ => rfl, fun j _ h1 h2 => by rw [h1] at h2; cases h2⟩, hpre.2, fun _ h => h, .inl rfl, hit2, O.inplan _⟩ ?_ ?_ ?_
    · rintro us a nx ⟨z', nz', vh', ve', ne', θ', ns', rfl, _⟩
      exact List.mem_append_right _ (r.ths_ro hp (.tail _ (.tail _ (.tail _ (.head _)))))
    · intro v us a1 nx I it h2 tk2 hRR0 hoffI F2 N2'
      refine Classical.byContradiction fun hGo => ?_
      (obtain ⟨z', nz', vh', ve', ne', θ', ns', rfl, b1, b2, b3, b4, b5, b6, b7, b8, bz, b9, b10⟩ := hRR0) <;> (refine hGo ?_; clear hGo)
      obtain ⟨q, t, ns'', rfl, rfl, b9'⟩ : ∃ q t ns'', v = Value.int q t ∧ ns' = q :: ns'' ∧ IntsAre us ns'' := by cases b9 with | cons q t h => exact ⟨q, t, _, rfl, rfl, h⟩
      have hb := b10 q List.mem_cons_self
      have N3 := N2'
      dsimp only [RealA.all, RealA.ex] at N3
      dsimp only [List.cons_append, List.nil_append] at N3
      (try k_fold)
      repeat' ((fail_if_success (with_reducible show wpAny _ _ (call (Value.ref _) _) _ _ _)); first | (k_unfold; (try dsimp only)) | (k_here; (with_reducible show wpAny _ _ (call (Value.builtin _) [Value.ref _, _]) _ _ _); k_dflt (refine' append_K ?y0k1 ?y0k2 ?y0k3 ?_ ?y0z; (case y0k1 => k_asm); (case y0k2 => k_asm); (case y0k3 => k_upd); (case y0z => ((simp only [List.size_toArray]); (rw [PySem.sizeLine_eq]); unfold Mine.hc at *; omega)); k_whole); intro h' F' N'; (try k_sweep)) | walk1 | (dsimp only; walk1) | fail "no step")
      have IH' := IH
      unfold LetR RSpec at IH'
      k_dflt (refine' IH' _ _ _ _ _ _ _ _ _ _ _ _ _ _ _ _ _ z' nz' vh' ve' ne' θ' a1 q t GB ?k2 GX GT ?k5 (fun p hp => N2' p (List.mem_cons_of_mem _ hp)) b1 b2 b3 b4 b5 hb.1 hb.2 b7 ?kd ?ku ?_)
      case k2 => exact F2
      case k5 => rfl
      case kd => ktr_room
      case ku => ktr_units
      intro h3 tk3 z3 nz3 vh3 ve3 ne3 θ3 F3 N4 c1 c2 c3 c4 c5 c6 kp3
      dsimp only
      repeat' (first | (k_unfold; (try dsimp only)) | (k_here; (with_reducible show wpAny _ _ (call (Value.builtin _) [Value.ref _, _]) _ _ _); k_dflt (refine' append_K ?y0k1 ?y0k2 ?y0k3 ?_ ?y0z; (case y0k1 => k_asm); (case y0k2 => k_asm); (case y0k3 => k_upd); (case y0z => ((simp only [List.size_toArray]); (rw [PySem.sizeLine_eq]); unfold Mine.hc at *; omega)); k_whole); intro h' F' N'; (try k_sweep)) | walk1 | (dsimp only; walk1) | fail "no step")
      have hzI : z3 ≠ I := fun e => by
        rcases c6 with e2 | e2
        · exact hoffI (z', listOf #[] nz') (List.mem_append_left _ (by k_mem)) (e2.symm.trans e)
        · rw [e, (N2' (I, it) List.mem_cons_self).1] at e2; cases e2
      refine ⟨h3, _, some (Value.int q t), r.all w n z3 #[] nz3 vh3 ve3 ne3 θ3, rfl, F3, fun p hp => ?_, RealA.off_z hoffI hzI, z3, nz3, vh3, ve3, ne3, θ3, ns'', rfl, c1, c2, letA_len O.inplan b3 hb.1 hb.2, c3, c4, b6.trans c5 b8, Nat.le_trans hc_letA b7, fun j hj => letA_mono (b8 j hj), ?_, b9', fun q' hq' => b10 q' (List.mem_cons_of_mem _ hq')⟩
      · rcases List.mem_cons.mp hp with rfl | hp
        · refine ⟨kp3 _ _ (fun hm => ?_) (N2' (I, it) List.mem_cons_self).1, (N2' (I, it) List.mem_cons_self).2⟩
          obtain ⟨q', hq', e⟩ := RealA.adrs_mem (w := w) (zs := #[]) (nz := nz') (vh := vh') (ve := ve') (ne := ne') (θ := θ') hm
          exact hoffI q' hq' e
        · exact N4 p hp
      · rcases c6 with e | e
        · rw [e]; exact bz
        · cases e3 : s.heap.get? z3 with
          | none => exact .inr rfl
          | some o3 =>
            by_cases hm : z3 ∈ ((r.ex w n z #[] nz vh ve ne ++ [r.thD w θ k.toNat, (r.x k.toNat, instObj 78 (r.d k.toNat))]) ++ R).map (·.1)
            · obtain ⟨q', hq', e4⟩ := List.mem_map.mp hm
              have hall : q' ∈ r.all w n z #[] nz vh ve ne θ := (List.mem_append.mp hq').elim (hEx q') (hs2 q')
              rcases RealA.adrs_z (z' := z') (RealA.mem_adrs hall) with h5 | h5
              · exact .inl (e4.symm.trans h5)
              · obtain ⟨q2, hq2, e5⟩ := RealA.adrs_mem (w := w) (zs := #[]) (nz := nz') (vh := vh') (ve := ve') (ne := ne') (θ := θ') h5
                have := (N2' q2 (List.mem_cons_of_mem _ hq2)).1
                rw [e5, e4, e] at this; cases this
            · have := F2.keep _ _ (kg _ _ e3 hm)
              rw [e] at this; cases this
    · intro m₁ nx h3 tk3 hRR0 hm3 F3 N3
      refine Classical.byContradiction fun hGo => ?_
      (obtain ⟨z', nz', vh', ve', ne', θ', ns', rfl, b1, b2, b3, b4, b5, b6, b7, b8, bz, b9, b10⟩ := hRR0) <;> (refine hGo ?_; clear hGo)
      have efold : (r.pv k.toNat).foldl (stepV plan bl f) { S0 with log := S0.log ++ [k] } = destA plan bl f S0 k := stepV_fold _ hit2
      rw [efold] at b1 b2 b4 b6
      clear N9 F9 F8 F8' Nall N8 F N
      dsimp only
      repeat' (first | (k_unfold; (try dsimp only)) | (k_here; (with_reducible show wpAny _ _ (call (Value.builtin _) [Value.ref _, _]) _ _ _); k_dflt (refine' append_K ?y0k1 ?y0k2 ?y0k3 ?_ ?y0z; (case y0k1 => k_asm); (case y0k2 => k_asm); (case y0k3 => k_upd); (case y0z => ((simp only [List.size_toArray]); (rw [PySem.sizeLine_eq]); unfold Mine.hc at *; omega)); k_whole); intro h' F' N'; (try k_sweep)) | walk1 | (dsimp only; walk1) | fail "no step")
      rename Keep _ _ _ => kp
      exact ret _ _ _ _ _ _ _ _ (by k_asm) (by k_asm) b1 b2 b4 b5 b6 bz (kp.mono fun b hb => by
        obtain ⟨q', hq', e4⟩ := List.mem_map.mp hb
        rw [← e4]
        exact RealA.mem_adrs ((List.mem_append.mp hq').elim (hEx q') (hs2 q')))
theorem all (x : XX) : St (x.1) (x.2.1) (x.2.2.1) (x.2.2.2.1) (x.2.2.2.2.1) (x.2.2.2.2.2.1) (x.2.2.2.2.2.2.1) (x.2.2.2.2.2.2.2.1) (x.2.2.2.2.2.2.2.2.1) (x.2.2.2.2.2.2.2.2.2.1) (x.2.2.2.2.2.2.2.2.2.2.1) (x.2.2.2.2.2.2.2.2.2.2.2.1) (x.2.2.2.2.2.2.2.2.2.2.2.2.1) (x.2.2.2.2.2.2.2.2.2.2.2.2.2.1) (x.2.2.2.2.2.2.2.2.2.2.2.2.2.2.1) (x.2.2.2.2.2.2.2.2.2.2.2.2.2.2.2.1) (x.2.2.2.2.2.2.2.2.2.2.2.2.2.2.2.2.1) (x.2.2.2.2.2.2.2.2.2.2.2.2.2.2.2.2.2.1) (x.2.2.2.2.2.2.2.2.2.2.2.2.2.2.2.2.2.2.1) (x.2.2.2.2.2.2.2.2.2.2.2.2.2.2.2.2.2.2.2.1) (x.2.2.2.2.2.2.2.2.2.2.2.2.2.2.2.2.2.2.2.2.1) (x.2.2.2.2.2.2.2.2.2.2.2.2.2.2.2.2.2.2.2.2.2.1) (x.2.2.2.2.2.2.2.2.2.2.2.2.2.2.2.2.2.2.2.2.2.2.1) (x.2.2.2.2.2.2.2.2.2.2.2.2.2.2.2.2.2.2.2.2.2.2.2.1) (x.2.2.2.2.2.2.2.2.2.2.2.2.2.2.2.2.2.2.2.2.2.2.2.2.1) (x.2.2.2.2.2.2.2.2.2.2.2.2.2.2.2.2.2.2.2.2.2.2.2.2.2.1) (x.2.2.2.2.2.2.2.2.2.2.2.2.2.2.2.2.2.2.2.2.2.2.2.2.2.2.1) (x.2.2.2.2.2.2.2.2.2.2.2.2.2.2.2.2.2.2.2.2.2.2.2.2.2.2.2.1) (x.2.2.2.2.2.2.2.2.2.2.2.2.2.2.2.2.2.2.2.2.2.2.2.2.2.2.2.2.1) (x.2.2.2.2.2.2.2.2.2.2.2.2.2.2.2.2.2.2.2.2.2.2.2.2.2.2.2.2.2.1) (x.2.2.2.2.2.2.2.2.2.2.2.2.2.2.2.2.2.2.2.2.2.2.2.2.2.2.2.2.2.2.1) (x.2.2.2.2.2.2.2.2.2.2.2.2.2.2.2.2.2.2.2.2.2.2.2.2.2.2.2.2.2.2.2.1) (x.2.2.2.2.2.2.2.2.2.2.2.2.2.2.2.2.2.2.2.2.2.2.2.2.2.2.2.2.2.2.2.2.1) (x.2.2.2.2.2.2.2.2.2.2.2.2.2.2.2.2.2.2.2.2.2.2.2.2.2.2.2.2.2.2.2.2.2.1) (x.2.2.2.2.2.2.2.2.2.2.2.2.2.2.2.2.2.2.2.2.2.2.2.2.2.2.2.2.2.2.2.2.2.2.1) (x.2.2.2.2.2.2.2.2.2.2.2.2.2.2.2.2.2.2.2.2.2.2.2.2.2.2.2.2.2.2.2.2.2.2.2.1) (x.2.2.2.2.2.2.2.2.2.2.2.2.2.2.2.2.2.2.2.2.2.2.2.2.2.2.2.2.2.2.2.2.2.2.2.2) := eps_all (ne := neX) (P := fun x => St (x.1) (x.2.1) (x.2.2.1) (x.2.2.2.1) (x.2.2.2.2.1) (x.2.2.2.2.2.1) (x.2.2.2.2.2.2.1) (x.2.2.2.2.2.2.2.1) (x.2.2.2.2.2.2.2.2.1) (x.2.2.2.2.2.2.2.2.2.1) (x.2.2.2.2.2.2.2.2.2.2.1) (x.2.2.2.2.2.2.2.2.2.2.2.1) (x.2.2.2.2.2.2.2.2.2.2.2.2.1) (x.2.2.2.2.2.2.2.2.2.2.2.2.2.1) (x.2.2.2.2.2.2.2.2.2.2.2.2.2.2.1) (x.2.2.2.2.2.2.2.2.2.2.2.2.2.2.2.1) (x.2.2.2.2.2.2.2.2.2.2.2.2.2.2.2.2.1) (x.2.2.2.2.2.2.2.2.2.2.2.2.2.2.2.2.2.1) (x.2.2.2.2.2.2.2.2.2.2.2.2.2.2.2.2.2.2.1) (x.2.2.2.2.2.2.2.2.2.2.2.2.2.2.2.2.2.2.2.1) (x.2.2.2.2.2.2.2.2.2.2.2.2.2.2.2.2.2.2.2.2.1) (x.2.2.2.2.2.2.2.2.2.2.2.2.2.2.2.2.2.2.2.2.2.1) (x.2.2.2.2.2.2.2.2.2.2.2.2.2.2.2.2.2.2.2.2.2.2.1) (x.2.2.2.2.2.2.2.2.2.2.2.2.2.2.2.2.2.2.2.2.2.2.2.1) (x.2.2.2.2.2.2.2.2.2.2.2.2.2.2.2.2.2.2.2.2.2.2.2.2.1) (x.2.2.2.2.2.2.2.2.2.2.2.2.2.2.2.2.2.2.2.2.2.2.2.2.2.1) (x.2.2.2.2.2.2.2.2.2.2.2.2.2.2.2.2.2.2.2.2.2.2.2.2.2.2.1) (x.2.2.2.2.2.2.2.2.2.2.2.2.2.2.2.2.2.2.2.2.2.2.2.2.2.2.2.1) (x.2.2.2.2.2.2.2.2.2.2.2.2.2.2.2.2.2.2.2.2.2.2.2.2.2.2.2.2.1) (x.2.2.2.2.2.2.2.2.2.2.2.2.2.2.2.2.2.2.2.2.2.2.2.2.2.2.2.2.2.1) (x.2.2.2.2.2.2.2.2.2.2.2.2.2.2.2.2.2.2.2.2.2.2.2.2.2.2.2.2.2.2.1) (x.2.2.2.2.2.2.2.2.2.2.2.2.2.2.2.2.2.2.2.2.2.2.2.2.2.2.2.2.2.2.2.1) (x.2.2.2.2.2.2.2.2.2.2.2.2.2.2.2.2.2.2.2.2.2.2.2.2.2.2.2.2.2.2.2.2.1) (x.2.2.2.2.2.2.2.2.2.2.2.2.2.2.2.2.2.2.2.2.2.2.2.2.2.2.2.2.2.2.2.2.2.1) (x.2.2.2.2.2.2.2.2.2.2.2.2.2.2.2.2.2.2.2.2.2.2.2.2.2.2.2.2.2.2.2.2.2.2.1) (x.2.2.2.2.2.2.2.2.2.2.2.2.2.2.2.2.2.2.2.2.2.2.2.2.2.2.2.2.2.2.2.2.2.2.2.1) (x.2.2.2.2.2.2.2.2.2.2.2.2.2.2.2.2.2.2.2.2.2.2.2.2.2.2.2.2.2.2.2.2.2.2.2.2)) (by with_unfolding_all exact core) x
end C_dest_of_letB
theorem dest_of_letB {w : World}
  {p : Program}
  {loose : List PySem.Str}
  {mean : ExcName → Option Value}
  {mg mb : PySem.Str → Option Value}
  {r : RealA}
  {plan : List (List Int)}
  {bl : List Bool}
  {n : Nat}
  (O : RealOk w r plan bl n)
  {f d : Nat}
  {dp un : Nat}
  {gd : Option (List Code)}
  {cn : PySem.Str}
  {cs : Scope}
  {a : Addr}
  {ccd : Value}
  {cl : List (PySem.Str × Addr)}
  {outer : List Env}
  {A₀ : Around}
  {base h₀ : Heap}
  {L : Addr}
  {m : PySem.Str → Option Value}
  {s : Shared}
  {Q E : Value → Shared → Prop}
  {z : Addr}
  {nz : Nat}
  {vh ve : List Value}
  {ne : Nat}
  {θ : Nat → Th}
  {S : S}
  {k : Int}
  {tkk : Tok}
  (IH : LetR w p loose mean mg mb r plan bl n f d) : DestB w p loose mean mg mb r plan bl n f (d + 1) dp un gd cn cs a ccd cl outer A₀ base h₀ L m s Q E z nz vh ve ne θ S k tkk :=
  C_dest_of_letB.all (w, p, loose, mean, mg, mb, r, plan, bl, n, f, dp, un, gd, cn, cs, a, ccd, cl, outer, A₀, base, h₀, L, m, s, Q, E, z, nz, vh, ve, ne, θ, S, k, tkk) d O IH
theorem dest_of_let {w : World} {p : Program} {loose : List PySem.Str} {mean : ExcName → Option Value} {mg mb : PySem.Str → Option Value} {r : RealA} {plan : List (List Int)} {bl : List Bool} {n : Nat} (O : RealOk w r plan bl n) {f d : Nat}
    (IH : LetR w p loose mean mg mb r plan bl n f d) : DestR w p loose mean mg mb r plan bl n f (d + 1) := by
  unfold DestR RSpec
  intro dp un gd cn cs a ccd cl outer A₀ base h₀ L m s Q E z nz vh ve ne θ S k tkk
  exact dest_of_letB (tkk := tkk) O IH
end Mine
end
theorem Mine.rs_Let : True := by
  w_top off
  trivial
section
open PySem PySem.W PyProof.Rows PySem.Calls LSm
namespace Mine
theorem relR_unhold {r : RealA} {n : Nat} {S : S} {θ : Nat → Th} {k : Int} {t : Th} (h : RelR r n S θ) (hl : S.held.length = n) (hk : k.toNat < n) (hd : t.dest = (θ k.toNat).dest) (hf : t.freed = (θ k.toNat).freed) :
    RelR r n (S.unhold k) (upd θ k.toNat t) := by
  refine ⟨fun j hj => ?_, fun j hj => ?_, fun j hj hon => ?_⟩
  · by_cases e : j = k.toNat
    · subst e; rw [upd_self, hd]; exact h.dest _ hj
    · rw [upd_ne e]; exact h.dest j hj
  · by_cases e : j = k.toNat
    · subst e; rw [upd_self, hf]; exact h.freed _ hj
    · rw [upd_ne e]; exact h.freed j hj
  · have e : j ≠ k.toNat := fun q => by
      subst q
      have h3 : (S.held.set k.toNat false).getD k.toNat false = true := hon
      rw [getD_set_self (by omega)] at h3; cases h3
    rw [upd_ne e]
    have h3 : (S.held.set k.toNat false).getD j false = true := hon
    rw [getD_set_ne e] at h3
    exact h.on j hj h3
namespace C_let_of_setB
noncomputable abbrev XX : Type := (World) × (Program) × (List PySem.Str) × (ExcName → Option Value) × (PySem.Str → Option Value) × (PySem.Str → Option Value) × (RealA) × (List (List Int)) × (List Bool) × (Nat) × (Nat) × (Nat) × (Option (List Code)) × (PySem.Str) × (Scope) × (Addr) × (Value) × (List (PySem.Str × Addr)) × (List Env) × (Around) × (Heap) × (Heap) × (Addr) × (PySem.Str → Option Value) × (Shared) × (Value → Shared → Prop) × (Value → Shared → Prop) × (Addr) × (Nat) × (List Value) × (List Value) × (Nat) × (Nat → Th) × (Int) × (Tok)
noncomputable def St (w : World) (p : Program) (loose : List PySem.Str) (mean : ExcName → Option Value) (mg : PySem.Str → Option Value) (mb : PySem.Str → Option Value) (r : RealA) (plan : List (List Int)) (bl : List Bool) (n : Nat) (dp : Nat) (un : Nat) (gd : Option (List Code)) (cn : PySem.Str) (cs : Scope) (a : Addr) (ccd : Value) (cl : List (PySem.Str × Addr)) (outer : List Env) (A₀ : Around) (base : Heap) (h₀ : Heap) (L : Addr) (m : PySem.Str → Option Value) (s : Shared) (Q : Value → Shared → Prop) (E : Value → Shared → Prop) (z : Addr) (nz : Nat) (vh : List Value) (ve : List Value) (ne : Nat) (θ : Nat → Th) (k : Int) (tkk : Tok) : Prop :=
  ∀ (fl : Nat) (d : Nat) (S : S) (O : RealOk w r plan bl n) (IH : ∀ f, fl = f + 1 → SetR w p loose mean mg mb r plan bl n f d), LetB w p loose mean mg mb r plan bl n fl (d + 2) dp un gd cn cs a ccd cl outer A₀ base h₀ L m s Q E z nz vh ve ne θ S k tkk
theorem neX : Nonempty XX := by
  refine ⟨?_⟩
  repeat' (first | exact default | exact aWorld 1 | constructor | intro _)
noncomputable def cX : XX := @Classical.epsilon XX neX fun x => ¬ St (x.1) (x.2.1) (x.2.2.1) (x.2.2.2.1) (x.2.2.2.2.1) (x.2.2.2.2.2.1) (x.2.2.2.2.2.2.1) (x.2.2.2.2.2.2.2.1) (x.2.2.2.2.2.2.2.2.1) (x.2.2.2.2.2.2.2.2.2.1) (x.2.2.2.2.2.2.2.2.2.2.1) (x.2.2.2.2.2.2.2.2.2.2.2.1) (x.2.2.2.2.2.2.2.2.2.2.2.2.1) (x.2.2.2.2.2.2.2.2.2.2.2.2.2.1) (x.2.2.2.2.2.2.2.2.2.2.2.2.2.2.1) (x.2.2.2.2.2.2.2.2.2.2.2.2.2.2.2.1) (x.2.2.2.2.2.2.2.2.2.2.2.2.2.2.2.2.1) (x.2.2.2.2.2.2.2.2.2.2.2.2.2.2.2.2.2.1) (x.2.2.2.2.2.2.2.2.2.2.2.2.2.2.2.2.2.2.1) (x.2.2.2.2.2.2.2.2.2.2.2.2.2.2.2.2.2.2.2.1) (x.2.2.2.2.2.2.2.2.2.2.2.2.2.2.2.2.2.2.2.2.1) (x.2.2.2.2.2.2.2.2.2.2.2.2.2.2.2.2.2.2.2.2.2.1) (x.2.2.2.2.2.2.2.2.2.2.2.2.2.2.2.2.2.2.2.2.2.2.1) (x.2.2.2.2.2.2.2.2.2.2.2.2.2.2.2.2.2.2.2.2.2.2.2.1) (x.2.2.2.2.2.2.2.2.2.2.2.2.2.2.2.2.2.2.2.2.2.2.2.2.1) (x.2.2.2.2.2.2.2.2.2.2.2.2.2.2.2.2.2.2.2.2.2.2.2.2.2.1) (x.2.2.2.2.2.2.2.2.2.2.2.2.2.2.2.2.2.2.2.2.2.2.2.2.2.2.1) (x.2.2.2.2.2.2.2.2.2.2.2.2.2.2.2.2.2.2.2.2.2.2.2.2.2.2.2.1) (x.2.2.2.2.2.2.2.2.2.2.2.2.2.2.2.2.2.2.2.2.2.2.2.2.2.2.2.2.1) (x.2.2.2.2.2.2.2.2.2.2.2.2.2.2.2.2.2.2.2.2.2.2.2.2.2.2.2.2.2.1) (x.2.2.2.2.2.2.2.2.2.2.2.2.2.2.2.2.2.2.2.2.2.2.2.2.2.2.2.2.2.2.1) (x.2.2.2.2.2.2.2.2.2.2.2.2.2.2.2.2.2.2.2.2.2.2.2.2.2.2.2.2.2.2.2.1) (x.2.2.2.2.2.2.2.2.2.2.2.2.2.2.2.2.2.2.2.2.2.2.2.2.2.2.2.2.2.2.2.2.1) (x.2.2.2.2.2.2.2.2.2.2.2.2.2.2.2.2.2.2.2.2.2.2.2.2.2.2.2.2.2.2.2.2.2.1) (x.2.2.2.2.2.2.2.2.2.2.2.2.2.2.2.2.2.2.2.2.2.2.2.2.2.2.2.2.2.2.2.2.2.2)
@[irreducible] noncomputable def w := cX.1
@[irreducible] noncomputable def p := cX.2.1
@[irreducible] noncomputable def loose := cX.2.2.1
@[irreducible] noncomputable def mean := cX.2.2.2.1
@[irreducible] noncomputable def mg := cX.2.2.2.2.1
@[irreducible] noncomputable def mb := cX.2.2.2.2.2.1
@[irreducible] noncomputable def r := cX.2.2.2.2.2.2.1
@[irreducible] noncomputable def plan := cX.2.2.2.2.2.2.2.1
@[irreducible] noncomputable def bl := cX.2.2.2.2.2.2.2.2.1
@[irreducible] noncomputable def n := cX.2.2.2.2.2.2.2.2.2.1
@[irreducible] noncomputable def dp := cX.2.2.2.2.2.2.2.2.2.2.1
@[irreducible] noncomputable def un := cX.2.2.2.2.2.2.2.2.2.2.2.1
@[irreducible] noncomputable def gd := cX.2.2.2.2.2.2.2.2.2.2.2.2.1
@[irreducible] noncomputable def cn := cX.2.2.2.2.2.2.2.2.2.2.2.2.2.1
@[irreducible] noncomputable def cs := cX.2.2.2.2.2.2.2.2.2.2.2.2.2.2.1
@[irreducible] noncomputable def a := cX.2.2.2.2.2.2.2.2.2.2.2.2.2.2.2.1
@[irreducible] noncomputable def ccd := cX.2.2.2.2.2.2.2.2.2.2.2.2.2.2.2.2.1
@[irreducible] noncomputable def cl := cX.2.2.2.2.2.2.2.2.2.2.2.2.2.2.2.2.2.1
@[irreducible] noncomputable def outer := cX.2.2.2.2.2.2.2.2.2.2.2.2.2.2.2.2.2.2.1
@[irreducible] noncomputable def A₀ := cX.2.2.2.2.2.2.2.2.2.2.2.2.2.2.2.2.2.2.2.1
@[irreducible] noncomputable def base := cX.2.2.2.2.2.2.2.2.2.2.2.2.2.2.2.2.2.2.2.2.1
@[irreducible] noncomputable def h₀ := cX.2.2.2.2.2.2.2.2.2.2.2.2.2.2.2.2.2.2.2.2.2.1
@[irreducible] noncomputable def L := cX.2.2.2.2.2.2.2.2.2.2.2.2.2.2.2.2.2.2.2.2.2.2.1
@[irreducible] noncomputable def m := cX.2.2.2.2.2.2.2.2.2.2.2.2.2.2.2.2.2.2.2.2.2.2.2.1
@[irreducible] noncomputable def s := cX.2.2.2.2.2.2.2.2.2.2.2.2.2.2.2.2.2.2.2.2.2.2.2.2.1
@[irreducible] noncomputable def Q := cX.2.2.2.2.2.2.2.2.2.2.2.2.2.2.2.2.2.2.2.2.2.2.2.2.2.1
@[irreducible] noncomputable def E := cX.2.2.2.2.2.2.2.2.2.2.2.2.2.2.2.2.2.2.2.2.2.2.2.2.2.2.1
@[irreducible] noncomputable def z := cX.2.2.2.2.2.2.2.2.2.2.2.2.2.2.2.2.2.2.2.2.2.2.2.2.2.2.2.1
@[irreducible] noncomputable def nz := cX.2.2.2.2.2.2.2.2.2.2.2.2.2.2.2.2.2.2.2.2.2.2.2.2.2.2.2.2.1
@[irreducible] noncomputable def vh := cX.2.2.2.2.2.2.2.2.2.2.2.2.2.2.2.2.2.2.2.2.2.2.2.2.2.2.2.2.2.1
@[irreducible] noncomputable def ve := cX.2.2.2.2.2.2.2.2.2.2.2.2.2.2.2.2.2.2.2.2.2.2.2.2.2.2.2.2.2.2.1
@[irreducible] noncomputable def ne := cX.2.2.2.2.2.2.2.2.2.2.2.2.2.2.2.2.2.2.2.2.2.2.2.2.2.2.2.2.2.2.2.1
@[irreducible] noncomputable def θ := cX.2.2.2.2.2.2.2.2.2.2.2.2.2.2.2.2.2.2.2.2.2.2.2.2.2.2.2.2.2.2.2.2.1
@[irreducible] noncomputable def k := cX.2.2.2.2.2.2.2.2.2.2.2.2.2.2.2.2.2.2.2.2.2.2.2.2.2.2.2.2.2.2.2.2.2.1
@[irreducible] noncomputable def tkk := cX.2.2.2.2.2.2.2.2.2.2.2.2.2.2.2.2.2.2.2.2.2.2.2.2.2.2.2.2.2.2.2.2.2.2
theorem core : St w p loose mean mg mb r plan bl n dp un gd cn cs a ccd cl outer A₀ base h₀ L m s Q E z nz vh ve ne θ k tkk := by
  unfold St
  intro fl d S O IH
  unfold LetB RBody Pr
  intro B F X T hk N hvh hve hS hR hz h0 h1 hpre hd hu ret
  revert X; k_fill; intro X
  have hp : k.toNat < n := by omega
  have hEx : ∀ q ∈ r.ex w n z #[] nz vh ve ne ++ (r.thD w θ k.toNat :: [(r.x k.toNat, instObj 78 (r.d k.toNat)), (r.wk k.toNat, listOf #[] (r.nw k.toNat)), (r.it k.toNat, listOf #[] (r.ni k.toNat))]), q ∈ r.all w n z #[] nz vh ve ne θ := (fun q hq => by
    rcases List.mem_append.mp hq with hq | hq
    · exact List.mem_append_left _ hq
    · replace hq := mem_ors hq
      rcases hq with rfl | rfl | rfl | rfl
      · exact List.mem_append_right _ (r.ths_d hp)
      · exact List.mem_append_right _ (r.ths_ro hp (.head _))
      · exact List.mem_append_right _ (r.ths_ro hp (.tail _ (.head _)))
      · exact List.mem_append_right _ (r.ths_ro hp (.tail _ (.tail _ (.head _)))))
  obtain ⟨R, N2, hoff, hs, hs2⟩ := split_news (Ex := r.ex w n z #[] nz vh ve ne ++ (r.thD w θ k.toNat :: [(r.x k.toNat, instObj 78 (r.d k.toNat)), (r.wk k.toNat, listOf #[] (r.nw k.toNat)), (r.it k.toNat, listOf #[] (r.ni k.toNat))])) N hEx
  have hAdr : ∀ b ∈ ((r.ex w n z #[] nz vh ve ne ++ (r.thD w θ k.toNat :: [(r.x k.toNat, instObj 78 (r.d k.toNat)), (r.wk k.toNat, listOf #[] (r.nw k.toNat)), (r.it k.toNat, listOf #[] (r.ni k.toNat))])) ++ R).map (·.1), b ∈ r.adrs n z := fun b hb => by
    obtain ⟨q', hq', e4⟩ := List.mem_map.mp hb
    rw [← e4]
    exact RealA.mem_adrs ((List.mem_append.mp hq').elim (hEx q') (hs2 q'))
  obtain ⟨vsk, tsk, ek1, ek2⟩ := O.ekL
  refine wpAny_call ?_
  k_dflt (refine' callG_plain (qual := PySem.Str.ofString "law" ++ PySem.Str.ofString ".<locals>." ++ PySem.Str.ofString "let") B F N2 hoff X T ?kA ?kF ?kK (N (r.fL, r.oL) ?km).1 ?kd ?kc ?kr ?kb ?kl ?_ ?c1 ?c2 ?c3 ?c4)
  case kA => exact rfl
  case kF => exact rfl
  case kK => assumption
  case km => exact List.mem_append_left _ (by k_mem)
  case kd => exact rfl
  case kc => exact codeRec_news N (List.mem_append_left _ (by k_mem) : (r.kL, r.okL) ∈ _) ek1 ek2
  case kr => ktr_room
  case kb => exact BindsTo.of_eq rfl
  case kl => exact locs rfl
  case c1 => decide
  case c2 => exact rfl
  case c3 => exact rfl
  case c4 => exact rfl
  intro g g₁ L' h₁ hReb ⟨GB, GX, GT, kg⟩ FG F' N' B' X' T' l1 l2 lL
  have hlt : ∀ q ∈ r.ths w n θ, q.1 < L' := fun q hq => by
    rcases List.mem_append.mp (hs q (List.mem_append_right _ hq)) with h | h
    · exact l1 q h
    · exact l2 q h
  have ecc := O.ecc
  have ecp := O.ecp
  have ech := O.ech
  have ect := O.ect
  have eco := O.eco
  have ecL := O.ecL
  have ece := O.ece
  have hn5 := O.small
  have hl1 := hS.held
  have hit1 : (r.vt n)[k.toNat]? = some (.ref (r.x k.toNat)) := by simp only [List.getElem?_map, List.getElem?_range hp, Option.map_some]
  have hlt2 : (r.vt n).length = n := by simp only [List.length_map, List.length_range]
  have hne1 : @Ne Nat (r.x k.toNat) (r.d k.toNat) := Ne.symm (O.dro _ _ hp hp).1
  have hnd : ∀ b ∈ r.adr, @Ne Nat b (r.d k.toNat) := fun b hb e => O.dadr _ hp (e ▸ hb)
  simp only [List.forall_mem_cons, List.forall_mem_nil, and_true] at hnd
  (repeat ((have hq9 := And.left hnd); (replace hnd := And.right hnd)))
  have hne2 : @Ne Nat z (r.d k.toNat) := (hz.2 _ hp).1
  have hne3 : @Ne Nat (r.wk k.toNat) (r.d k.toNat) := Ne.symm (O.dro _ _ hp hp).2.1
  have hne4 : @Ne Nat (r.it k.toNat) (r.d k.toNat) := Ne.symm (O.dro _ _ hp hp).2.2.1
  obtain ⟨w1, w2, w3, w4, w5, w6, w7, w8, w9, w10, w11, w12, w13, w14, w15, w16, w17, w18, w19⟩ := RealA.hl_ne O.nd
  have w20 : @Ne Nat z r.hl := not_mem_ne hz.1 (by first | k_mem | simp)
  have w21 : @Ne Nat (r.d k.toNat) r.hl := not_mem_ne (O.dadr _ hp) (by first | k_mem | simp)
  have w22 : @Ne Nat (r.x k.toNat) r.hl := not_mem_ne (O.roadr _ hp).1 (by first | k_mem | simp)
  have w23 : @Ne Nat (r.wk k.toNat) r.hl := not_mem_ne (O.roadr _ hp).2.1 (by first | k_mem | simp)
  have w24 : @Ne Nat (r.it k.toNat) r.hl := not_mem_ne (O.roadr _ hp).2.2.1 (by first | k_mem | simp)
  have hnz : ∀ b ∈ r.adr, @Ne Nat b z := fun b hb e => hz.1 (e ▸ hb)
  simp only [List.forall_mem_cons, List.forall_mem_nil, and_true] at hnz
  (repeat ((have hq9 := And.left hnz); (replace hnz := And.right hnz)))
  obtain ⟨v1, v2, v3, v4, v5⟩ := hz.2 _ hp
  have v2' := Ne.symm v2
  have v3' := Ne.symm v3
  have v4' := Ne.symm v4
  have v1' := Ne.symm v1
  have N'0 := N'
  dsimp only [RealA.ex, RealA.thD, RealA.all, Th.obj] at N' l1
  simp only [List.cons_append, List.nil_append] at N' l1
  k_lt l1
  cases eh : S.held.getD k.toNat false with
  | false =>
    repeat' ((fail_if_success (with_reducible show LeaveK _ _ _ _ _ _ _)); first | (k_unfold; (try dsimp only)) | walk1 | (dsimp only; walk1) | fail "no step")
    have F10 := hReb.fr F'
    have NR : News g L' _ R := fun q hq => ⟨F'.keep _ _ (hReb.rest q hq).1, Nat.ne_of_lt (hReb.rest q hq).2.1, (hReb.rest q hq).2.2⟩
    dsimp only at ret
    rw [letA_off eh] at ret
    have Nall := refocus (z' := z) (zs' := #[]) (nz' := nz) (vh' := vh) (ve' := ve) (ne' := ne) (θ' := θ) O hz hp (hReb.ex (Ex := r.ex w n z #[] nz vh ve ne ++ (r.thD w θ k.toNat :: [(r.x k.toNat, instObj 78 (r.d k.toNat)), (r.wk k.toNat, listOf #[] (r.nw k.toNat)), (r.it k.toNat, listOf #[] (r.ni k.toNat))])) N'0) NR hs (fun q hq => Or.inr (List.mem_append_right _ hq)) (fun q hq => List.mem_append_left _ hq) (List.mem_append_right _ (.head _)) (fun _ _ _ => rfl)
    clear F' N' N'0
    repeat' (first | (k_unfold; (try dsimp only)) | walk1 | (dsimp only; walk1) | fail "no step")
    rename Keep _ _ _ => kp
    exact ret _ _ _ _ _ _ _ _ (by k_asm) (by k_asm) hvh hve hR hz Left.refl (.inl rfl) (kp.mono hAdr)
  | true =>
    have hcc := hc_set eh
    obtain ⟨f, rfl⟩ : ∃ f, fl = f + 1 := ⟨fl - 1, by have h9 : hc S.held ≤ fl := hpre; omega⟩
    have IH := IH f rfl
    obtain ⟨hcnt, hwk, hitt, hfr⟩ := hR.on k.toNat hp eh
    simp only [hcnt, hwk, hitt, hfr] at N'
    clear N'0
    repeat' ((fail_if_success (with_reducible show wpAny _ _ (call (Value.ref 342) _) _ _ _)); first | (k_unfold; (try dsimp only)) | walk1 | (dsimp only; walk1) | fail "no step")
    rename News _ _ _ _ => N9
    rename Fr _ _ _ _ => F9
    rename BoolsAre (vh.set _ _) _ => hb9
    rw [List.push_toArray, List.nil_append] at N9
    dsimp only at ret
    rw [letA_on eh] at ret
    have NR : News g L' _ R := fun q hq => ⟨F9.keep _ _ (hReb.rest q hq).1, Nat.ne_of_lt (hReb.rest q hq).2.1, (hReb.rest q hq).2.2⟩
    obtain ⟨t, ht, e1, e2, e3, e4, e5⟩ := news_th w.params (r.d k.toNat) N9 (by k_mem)
    have N1 : News g L' _ (r.ex w n z #[.ref (r.x k.toNat)] (nz + 1) (vh.set k.toNat (.bool false)) ve ne) := hReb.ex (news_sub N9 (by dsimp only [RealA.ex]; lcg_sub))
    have N3 : News g L' _ [(r.x k.toNat, instObj 78 (r.d k.toNat)), (r.wk k.toNat, listOf #[] (r.nw k.toNat)), (r.it k.toNat, listOf #[] (r.ni k.toNat))] := hReb.ex (news_sub N9 (by lcg_sub))
    have Nall := refocusU O hz hp N1 (hReb.ex ht) N3 NR hs
    have F10 := hReb.fr F9
    have hS1 : (S.unhold k).Len n := hS.unhold
    have hR1 := relR_unhold (t := t) hR hS.held hp e2 (by rw [e5, hfr])
    have hh1 : (S.unhold k).held.getD k.toNat false = false := getD_set_self (by omega)
    have IH' := IH
    unfold SetR RSpec at IH'
    k_dflt (refine' IH' _ _ _ _ _ _ _ _ _ _ _ _ _ _ _ _ _ z (nz + 1) (vh.set k.toNat (.bool false)) ve ne (upd θ k.toNat t) (S.unhold k) k _ GB F10 GX GT ?k5 Nall hb9 hve hS1 hR1 hz h0 h1 ⟨hh1, ?p1, ?p2, ?p3, ?p4, ?p5⟩ ?kd ?ku ?_)
    case k5 => rfl
    case p1 => rw [upd_self, e1]; rfl
    case p2 => rw [upd_self, e3]
    case p3 => rw [upd_self, e4]
    case p4 => rw [upd_self, e5]
    case p5 => have h9 : hc S.held ≤ f + 1 := hpre; show hc (S.held.set k.toNat false) ≤ f; omega
    case kd => ktr_room
    case ku => ktr_units
    intro h3 tk3 z3 nz3 vh3 ve3 ne3 θ3 F3 N4 c1 c2 c4 c7 c5 c6 kp3
    have hz3 : z3 = z ∨ s.heap.get? z3 = none := c6.imp id fun e => fresh_back kg hAdr F10.keep Nall e
    clear N9 F9 F10 Nall N1 N3 NR ht X' T' B'
    have N5 := N4
    dsimp only [RealA.all, RealA.ex] at N5
    dsimp only [List.cons_append, List.nil_append] at N5
    dsimp only
    repeat' (first | (k_unfold; (try dsimp only)) | walk1 | (dsimp only; walk1) | fail "no step")
    rename Keep _ _ _ => kp
    refine ret _ _ _ _ _ _ _ _ (by k_asm) (by k_asm) c1 c2 c4 c7 ⟨fun j hj h4 => ?_, fun j hj h4 h5 => ?_⟩ hz3 (kp.mono hAdr)
    · have hjk : j ≠ k.toNat := fun e => by rw [e, eh] at h4; cases h4
      rw [c5.1.1 j hj hjk (set_mono h4), upd_ne hjk]
    · by_cases hjk : j = k.toNat
      · rw [hjk]; exact c5.2
      · exact c5.1.2 j hj hjk (by show (S.held.set k.toNat false).getD j false = true; rw [getD_set_ne hjk]; exact h4) h5
theorem all (x : XX) : St (x.1) (x.2.1) (x.2.2.1) (x.2.2.2.1) (x.2.2.2.2.1) (x.2.2.2.2.2.1) (x.2.2.2.2.2.2.1) (x.2.2.2.2.2.2.2.1) (x.2.2.2.2.2.2.2.2.1) (x.2.2.2.2.2.2.2.2.2.1) (x.2.2.2.2.2.2.2.2.2.2.1) (x.2.2.2.2.2.2.2.2.2.2.2.1) (x.2.2.2.2.2.2.2.2.2.2.2.2.1) (x.2.2.2.2.2.2.2.2.2.2.2.2.2.1) (x.2.2.2.2.2.2.2.2.2.2.2.2.2.2.1) (x.2.2.2.2.2.2.2.2.2.2.2.2.2.2.2.1) (x.2.2.2.2.2.2.2.2.2.2.2.2.2.2.2.2.1) (x.2.2.2.2.2.2.2.2.2.2.2.2.2.2.2.2.2.1) (x.2.2.2.2.2.2.2.2.2.2.2.2.2.2.2.2.2.2.1) (x.2.2.2.2.2.2.2.2.2.2.2.2.2.2.2.2.2.2.2.1) (x.2.2.2.2.2.2.2.2.2.2.2.2.2.2.2.2.2.2.2.2.1) (x.2.2.2.2.2.2.2.2.2.2.2.2.2.2.2.2.2.2.2.2.2.1) (x.2.2.2.2.2.2.2.2.2.2.2.2.2.2.2.2.2.2.2.2.2.2.1) (x.2.2.2.2.2.2.2.2.2.2.2.2.2.2.2.2.2.2.2.2.2.2.2.1) (x.2.2.2.2.2.2.2.2.2.2.2.2.2.2.2.2.2.2.2.2.2.2.2.2.1) (x.2.2.2.2.2.2.2.2.2.2.2.2.2.2.2.2.2.2.2.2.2.2.2.2.2.1) (x.2.2.2.2.2.2.2.2.2.2.2.2.2.2.2.2.2.2.2.2.2.2.2.2.2.2.1) (x.2.2.2.2.2.2.2.2.2.2.2.2.2.2.2.2.2.2.2.2.2.2.2.2.2.2.2.1) (x.2.2.2.2.2.2.2.2.2.2.2.2.2.2.2.2.2.2.2.2.2.2.2.2.2.2.2.2.1) (x.2.2.2.2.2.2.2.2.2.2.2.2.2.2.2.2.2.2.2.2.2.2.2.2.2.2.2.2.2.1) (x.2.2.2.2.2.2.2.2.2.2.2.2.2.2.2.2.2.2.2.2.2.2.2.2.2.2.2.2.2.2.1) (x.2.2.2.2.2.2.2.2.2.2.2.2.2.2.2.2.2.2.2.2.2.2.2.2.2.2.2.2.2.2.2.1) (x.2.2.2.2.2.2.2.2.2.2.2.2.2.2.2.2.2.2.2.2.2.2.2.2.2.2.2.2.2.2.2.2.1) (x.2.2.2.2.2.2.2.2.2.2.2.2.2.2.2.2.2.2.2.2.2.2.2.2.2.2.2.2.2.2.2.2.2.1) (x.2.2.2.2.2.2.2.2.2.2.2.2.2.2.2.2.2.2.2.2.2.2.2.2.2.2.2.2.2.2.2.2.2.2) := eps_all (ne := neX) (P := fun x => St (x.1) (x.2.1) (x.2.2.1) (x.2.2.2.1) (x.2.2.2.2.1) (x.2.2.2.2.2.1) (x.2.2.2.2.2.2.1) (x.2.2.2.2.2.2.2.1) (x.2.2.2.2.2.2.2.2.1) (x.2.2.2.2.2.2.2.2.2.1) (x.2.2.2.2.2.2.2.2.2.2.1) (x.2.2.2.2.2.2.2.2.2.2.2.1) (x.2.2.2.2.2.2.2.2.2.2.2.2.1) (x.2.2.2.2.2.2.2.2.2.2.2.2.2.1) (x.2.2.2.2.2.2.2.2.2.2.2.2.2.2.1) (x.2.2.2.2.2.2.2.2.2.2.2.2.2.2.2.1) (x.2.2.2.2.2.2.2.2.2.2.2.2.2.2.2.2.1) (x.2.2.2.2.2.2.2.2.2.2.2.2.2.2.2.2.2.1) (x.2.2.2.2.2.2.2.2.2.2.2.2.2.2.2.2.2.2.1) (x.2.2.2.2.2.2.2.2.2.2.2.2.2.2.2.2.2.2.2.1) (x.2.2.2.2.2.2.2.2.2.2.2.2.2.2.2.2.2.2.2.2.1) (x.2.2.2.2.2.2.2.2.2.2.2.2.2.2.2.2.2.2.2.2.2.1) (x.2.2.2.2.2.2.2.2.2.2.2.2.2.2.2.2.2.2.2.2.2.2.1) (x.2.2.2.2.2.2.2.2.2.2.2.2.2.2.2.2.2.2.2.2.2.2.2.1) (x.2.2.2.2.2.2.2.2.2.2.2.2.2.2.2.2.2.2.2.2.2.2.2.2.1) (x.2.2.2.2.2.2.2.2.2.2.2.2.2.2.2.2.2.2.2.2.2.2.2.2.2.1) (x.2.2.2.2.2.2.2.2.2.2.2.2.2.2.2.2.2.2.2.2.2.2.2.2.2.2.1) (x.2.2.2.2.2.2.2.2.2.2.2.2.2.2.2.2.2.2.2.2.2.2.2.2.2.2.2.1) (x.2.2.2.2.2.2.2.2.2.2.2.2.2.2.2.2.2.2.2.2.2.2.2.2.2.2.2.2.1) (x.2.2.2.2.2.2.2.2.2.2.2.2.2.2.2.2.2.2.2.2.2.2.2.2.2.2.2.2.2.1) (x.2.2.2.2.2.2.2.2.2.2.2.2.2.2.2.2.2.2.2.2.2.2.2.2.2.2.2.2.2.2.1) (x.2.2.2.2.2.2.2.2.2.2.2.2.2.2.2.2.2.2.2.2.2.2.2.2.2.2.2.2.2.2.2.1) (x.2.2.2.2.2.2.2.2.2.2.2.2.2.2.2.2.2.2.2.2.2.2.2.2.2.2.2.2.2.2.2.2.1) (x.2.2.2.2.2.2.2.2.2.2.2.2.2.2.2.2.2.2.2.2.2.2.2.2.2.2.2.2.2.2.2.2.2.1) (x.2.2.2.2.2.2.2.2.2.2.2.2.2.2.2.2.2.2.2.2.2.2.2.2.2.2.2.2.2.2.2.2.2.2)) (by with_unfolding_all exact core) x
end C_let_of_setB
theorem let_of_setB {w : World}
  {p : Program}
  {loose : List PySem.Str}
  {mean : ExcName → Option Value}
  {mg mb : PySem.Str → Option Value}
  {r : RealA}
  {plan : List (List Int)}
  {bl : List Bool}
  {n : Nat}
  (O : RealOk w r plan bl n)
  {fl d : Nat}
  {dp un : Nat}
  {gd : Option (List Code)}
  {cn : PySem.Str}
  {cs : Scope}
  {a : Addr}
  {ccd : Value}
  {cl : List (PySem.Str × Addr)}
  {outer : List Env}
  {A₀ : Around}
  {base h₀ : Heap}
  {L : Addr}
  {m : PySem.Str → Option Value}
  {s : Shared}
  {Q E : Value → Shared → Prop}
  {z : Addr}
  {nz : Nat}
  {vh ve : List Value}
  {ne : Nat}
  {θ : Nat → Th}
  {S : S}
  {k : Int}
  {tkk : Tok}
  (IH : ∀ f, fl = f + 1 → SetR w p loose mean mg mb r plan bl n f d) : LetB w p loose mean mg mb r plan bl n fl (d + 2) dp un gd cn cs a ccd cl outer A₀ base h₀ L m s Q E z nz vh ve ne θ S k tkk :=
  C_let_of_setB.all (w, p, loose, mean, mg, mb, r, plan, bl, n, dp, un, gd, cn, cs, a, ccd, cl, outer, A₀, base, h₀, L, m, s, Q, E, z, nz, vh, ve, ne, θ, k, tkk) fl d S O IH
theorem let_of_set {w : World} {p : Program} {loose : List PySem.Str} {mean : ExcName → Option Value} {mg mb : PySem.Str → Option Value} {r : RealA} {plan : List (List Int)} {bl : List Bool} {n : Nat} (O : RealOk w r plan bl n) {fl d : Nat}
    (IH : ∀ f, fl = f + 1 → SetR w p loose mean mg mb r plan bl n f d) : LetR w p loose mean mg mb r plan bl n fl (d + 2) := by
  unfold LetR RSpec
  intro dp un gd cn cs a ccd cl outer A₀ base h₀ L m s Q E z nz vh ve ne θ S k tkk
  exact let_of_setB (tkk := tkk) O IH
theorem real_all {w : World} {p : Program} {loose : List PySem.Str} {mean : ExcName → Option Value} {mg mb : PySem.Str → Option Value} {r : RealA} {plan : List (List Int)} {bl : List Bool} {n : Nat} (O : RealOk w r plan bl n) :
    ∀ f, LetR w p loose mean mg mb r plan bl n f (8 * f + 2)
  | 0 => let_of_set (d := 0) O fun f e => nomatch e
  | f + 1 => let_of_set (d := 8 * f + 8) O fun f' e => by
    obtain rfl : f = f' := Nat.succ.inj e
    exact set_of_fin O (fin_of_dest O (dest_of_let O (real_all O f)))
theorem real_dest {w : World} {p : Program} {loose : List PySem.Str} {mean : ExcName → Option Value} {mg mb : PySem.Str → Option Value} {r : RealA} {plan : List (List Int)} {bl : List Bool} {n : Nat} (O : RealOk w r plan bl n) (f : Nat) :
    DestR w p loose mean mg mb r plan bl n f (8 * f + 3) := dest_of_let O (real_all O f)
end Mine
end
end
theorem Mine.rs_o4 {w : PySem.World} {p : PySem.Program} {A : PySem.Around} {q : PySem.Pos} {e : PySem.Env} {Q : PySem.Flow → PySem.Shared → Prop} {E : PySem.Value → PySem.Shared → Prop} {s : PySem.Shared} (h : PySem.wpAny (PySem.model p w) A (PySem.exec (PySem.Stmt.Pass q) e) Q E s) : PySem.wpAny (PySem.model p w) A (PySem.exec (PySem.Stmt.Pass q) e) Q E s := by
  w_top off
  first | (walk1; exact h) | exact h
theorem Mine.rs_All : True := by
  w_top off
  trivial
section
open PySem PySem.W PyProof.Rows PySem.Calls LSm
namespace Mine
/-- what is not held has count nought -/
noncomputable def Cz (n : Nat) (S : S) (θ : Nat → Th) : Prop := ∀ j, j < n → S.held.getD j false = false → (θ j).cnt = 0
theorem Cz.left {n : Nat} {A A' : S} {θ θ' : Nat → Th} (h : Cz n A θ) (x : Left n A A' θ θ') : Cz n A' θ' := fun j hj h2 => by
  cases e : A.held.getD j false with
  | true => exact x.2 j hj e h2
  | false => rw [x.1 j hj e]; exact h j hj e
theorem relR_markH {r : RealA} {n : Nat} {S : S} {θ : Nat → Th} {k : Nat} {t : Th} (h : RelR r n S θ) (hl : S.done.length = n) (hk : k < n) (hd : t.dest = true) (hf : t.freed = (θ k).freed) (hc : t.cnt = (θ k).cnt) (hw : t.wk = (θ k).wk) (hi : t.it = (θ k).it) :
    RelR r n { S with done := S.done.set k true } (upd θ k t) := by
  refine ⟨fun j hj => ?_, fun j hj => ?_, fun j hj hon => ?_⟩
  · by_cases e : j = k
    · subst e; rw [upd_self, hd]; exact (getD_set_self (by omega)).symm
    · rw [upd_ne e, h.dest j hj]; exact (getD_set_ne e).symm
  · by_cases e : j = k
    · subst e; rw [upd_self, hf]; exact h.freed _ hj
    · rw [upd_ne e]; exact h.freed j hj
  · by_cases e : j = k
    · subst e; rw [upd_self, hf, hc, hw, hi]; exact h.on _ hj hon
    · rw [upd_ne e]; exact h.on j hj hon
/-- the dict that destroy_all fills: keys and values -/
noncomputable def SelF (r : RealA) (n : Nat) (bl : List Bool) (S : S) (kvs : List (Int × Value)) (qs : List Int) : Prop :=
  (∀ k : Int, k ∈ kvs.map (·.1) ↔ ∃ q ∈ qs, selP bl S q.toNat = true ∧ k = q + 1) ∧ ∀ kv ∈ kvs, ∃ j : Nat, j < n ∧ kv = ((j : Int) + 1, Value.ref (r.x j))
theorem mem_stored_keys {kvs : List (Int × Value)} {k : Int} {v : Value} {k' : Int} : k' ∈ (stored kvs k v).map (·.1) ↔ k' = k ∨ k' ∈ kvs.map (·.1) := by
  unfold stored
  split
  case isTrue h =>
    have hk : k ∈ kvs.map (·.1) := by
      obtain ⟨p, hp, e⟩ := List.any_eq_true.mp h
      exact List.mem_map.mpr ⟨p, hp, of_decide_eq_true e⟩
    have e : (kvs.map fun kv => if kv.1 = k then (kv.1, v) else kv).map (·.1) = kvs.map (·.1) := by
      rw [List.map_map]
      refine List.map_congr_left fun p _ => ?_
      show (if p.1 = k then (p.1, v) else p).1 = p.1
      split <;> rfl
    rw [e]
    exact ⟨.inr, fun h2 => h2.elim (fun e => e ▸ hk) id⟩
  case isFalse => simp [List.mem_append, or_comm, eq_comm]
theorem mem_stored {kvs : List (Int × Value)} {k : Int} {v : Value} {p : Int × Value} (h : p ∈ stored kvs k v) : p = (k, v) ∨ p ∈ kvs := by
  unfold stored at h
  split at h
  · obtain ⟨q, hq, rfl⟩ := List.mem_map.mp h
    split
    · rename_i e; exact .inl (by rw [e])
    · exact .inr hq
  · rcases List.mem_append.mp h with h | h
    · exact .inr h
    · exact .inl (List.mem_singleton.mp h)
theorem SelF.skip {r : RealA} {n : Nat} {bl : List Bool} {S : S} {kvs : List (Int × Value)} {qs : List Int} {q : Int} (h : SelF r n bl S kvs qs) (hq : selP bl S q.toNat = false) : SelF r n bl S kvs (qs ++ [q]) :=
  ⟨fun k => (h.1 k).trans ⟨fun ⟨q', h1, h2⟩ => ⟨q', List.mem_append_left _ h1, h2⟩, fun ⟨q', h1, h2⟩ => by
    rcases List.mem_append.mp h1 with h1 | h1
    · exact ⟨q', h1, h2⟩
    · rw [List.mem_singleton.mp h1, hq] at h2; cases h2.1⟩, h.2⟩
theorem SelF.take {r : RealA} {n : Nat} {bl : List Bool} {S : S} {kvs : List (Int × Value)} {qs : List Int} {q : Int} (h : SelF r n bl S kvs qs) (h0 : 0 ≤ q) (h1 : q < (n : Int)) (hq : selP bl S q.toNat = true) : SelF r n bl S (stored kvs ((q.toNat : Int) + 1) (.ref (r.x q.toNat))) (qs ++ [q]) := by
  refine ⟨fun k => mem_stored_keys.trans ⟨fun h2 => ?_, fun ⟨q', h2, h3⟩ => ?_⟩, fun kv hkv => ?_⟩
  · rcases h2 with rfl | h2
    · exact ⟨q, List.mem_append_right _ (.head _), hq, by omega⟩
    · obtain ⟨q', h3, h4⟩ := (h.1 k).mp h2
      exact ⟨q', List.mem_append_left _ h3, h4⟩
  · rcases List.mem_append.mp h2 with h2 | h2
    · exact .inr ((h.1 k).mpr ⟨q', h2, h3⟩)
    · rw [List.mem_singleton.mp h2] at h3
      exact .inl (by omega)
  · rcases mem_stored hkv with rfl | hkv
    · exact ⟨q.toNat, by omega, rfl⟩
    · exact h.2 kv hkv
theorem selP_off {bl : List Bool} {S : S} {i : Nat} (h : S.freed.getD i false = true ∨ S.done.getD i false = true ∨ bl.getD i false = false) : selP bl S i = false := by
  unfold selP
  rcases h with h | h | h <;> rw [h] <;> simp
theorem selP_on {bl : List Bool} {S : S} {i : Nat} (h1 : S.freed.getD i false = false) (h2 : S.done.getD i false = false) (h3 : bl.getD i false = true) : selP bl S i = true := by
  unfold selP
  rw [h1, h2, h3]; rfl
theorem SelF.at {r : RealA} {n : Nat} {bl : List Bool} {S : S} {kvs : List (Int × Value)} {qs : List Int} {k : Int} (h : SelF r n bl S kvs qs) (hn : (kvs.map (·.1)).Nodup) (hk : k ∈ kvs.map (·.1)) : ∃ q : Int, 0 ≤ q ∧ q < (n : Int) ∧ k = q + 1 ∧ valueAt kvs k = some (.ref (r.x q.toNat)) := by
  obtain ⟨p, hp, rfl⟩ := List.mem_map.mp hk
  obtain ⟨j, hj, rfl⟩ := h.2 p hp
  obtain ⟨i, hi⟩ := List.getElem?_of_mem hp
  exact ⟨(j : Int), by omega, by omega, rfl, valueAt_of_get hn hi⟩
theorem SelF.nums {r : RealA} {n : Nat} {bl : List Bool} {S : S} {kvs : List (Int × Value)} {qs : List Int} {ns : List Int} (h : SelF r n bl S kvs qs) (hin : ∀ q ∈ qs, 0 ≤ q ∧ q < (n : Int)) (hn : (kvs.map (·.1)).Nodup) (hp : ns.Perm (kvs.map (·.1))) (ho : ns.Pairwise (· ≤ ·)) :
    ns = ((List.range n).filter (allP bl S qs)).map fun i : Nat => (i : Int) + 1 := by
  refine eq_of_sorted _ _ ?_ ?_ fun x => ?_
  · have hnd : ns.Nodup := hp.symm.nodup hn
    exact (ho.and hnd).imp fun {a b} ⟨h1, h2⟩ => by omega
  · refine List.pairwise_map.mpr (List.Pairwise.filter _ (List.pairwise_lt_range.imp fun {a b} h => ?_))
    omega
  · rw [hp.mem_iff, h.1 x]
    constructor
    · rintro ⟨q, hq, hs, rfl⟩
      obtain ⟨h0, h1⟩ := hin q hq
      refine List.mem_map.mpr ⟨q.toNat, List.mem_filter.mpr ⟨List.mem_range.mpr (by omega), ?_⟩, by omega⟩
      unfold allP
      rw [hs, Bool.and_true]
      refine List.any_eq_true.mpr ⟨q, hq, ?_⟩
      have : ((q.toNat : Nat) : Int) = q := by omega
      rw [this]; exact beq_self_eq_true q
    · intro hx
      obtain ⟨i, hi, rfl⟩ := List.mem_map.mp hx
      have h2 := (List.mem_filter.mp hi).2
      unfold allP at h2
      obtain ⟨h3, h4⟩ := Bool.and_eq_true_iff.mp h2
      obtain ⟨q, hq, e⟩ := List.any_eq_true.mp h3
      have e := eq_of_beq e
      subst e
      exact ⟨(i : Int), hq, h4, rfl⟩
/-- one turn of destroy_all's second loop, by the number at hand -/
noncomputable def allV (plan : List (List Int)) (bl : List Bool) (f : Nat) (A : S) : Value → S
  | .int k _ => toldStep plan bl f A (k - 1)
  | _ => A
theorem allV_fold {plan : List (List Int)} {bl : List Bool} {f : Nat} : ∀ {vs : List Value} {ns : List Int} (a : S), IntsAre vs ns → vs.foldl (allV plan bl f) a = ns.foldl (fun a k => toldStep plan bl f a (k - 1)) a
  | _, _, _, .nil => rfl
  | _, _, a, .cons q t h => by rw [List.foldl_cons, List.foldl_cons]; exact allV_fold _ h
theorem allA_of {plan : List (List Int)} {bl : List Bool} {f n : Nat} {A : S} {ps : List Int} {vs : List Value} {ns : List Int} (hI : IntsAre vs ns) (e : ns = ((List.range n).filter (allP bl A ps)).map fun i : Nat => (i : Int) + 1) : vs.foldl (allV plan bl f) A = allA plan bl f n A ps := by
  rw [allV_fold A hI, e, allA, List.foldl_map, List.foldl_map]
  have : (fun (x : S) (y : Nat) => toldStep plan bl f x ((y : Int) + 1 - 1)) = fun (x : S) (y : Nat) => toldStep plan bl f x (y : Int) := by
    funext x y; rw [Int.add_sub_cancel]
  rw [this]
theorem count_fold : ∀ (l : List Value) (c : Nat), l.foldl (fun (i : Nat) (_ : Value) => i + 1) c = c + l.length
  | [], _ => rfl
  | _ :: r, c => by rw [List.foldl_cons, count_fold r (c + 1), List.length_cons]; omega
theorem toldStep_destA {plan : List (List Int)} {bl : List Bool} {f : Nat} {A : S} {k : Int} (h1 : A.done.getD k.toNat false = false) (h2 : A.freed.getD k.toNat false = false) : toldStep plan bl f A k = destA plan bl f { A with done := A.done.set k.toNat true } k := by
  unfold toldStep
  rw [if_pos (by rw [h1, h2]; rfl)]; rfl
theorem fr_swap {h₀ h : Heap} {L : Addr} {x y : PySem.Str} {m₀ : PySem.Str → Option Value} {a b u : Option Value} (hxy : x ≠ y) (F : Fr h₀ L h (fun z => if z = y then a else if z = x then b else if z = y then u else m₀ z)) : Fr h₀ L h (fun z => if z = x then b else if z = y then a else m₀ z) := map_swap hxy ▸ F
namespace C_all_spec
noncomputable abbrev XX : Type := (World) × (Program) × (List PySem.Str) × (ExcName → Option Value) × (PySem.Str → Option Value) × (PySem.Str → Option Value) × (RealA) × (List (List Int)) × (List Bool) × (Nat) × (Nat) × (Nat) × (Option (List Code)) × (PySem.Str) × (Scope) × (Addr) × (Value) × (List (PySem.Str × Addr)) × (List Env) × (Around) × (Heap) × (Heap) × (Addr) × (PySem.Str → Option Value) × (Shared) × (Value → Shared → Prop) × (Value → Shared → Prop) × (Addr) × (Nat) × (List Value) × (List Value) × (Nat) × (Nat → Th) × (List Int) × (Addr) × (Nat)
noncomputable def St (w : World) (p : Program) (loose : List PySem.Str) (mean : ExcName → Option Value) (mg : PySem.Str → Option Value) (mb : PySem.Str → Option Value) (r : RealA) (plan : List (List Int)) (bl : List Bool) (n : Nat) (dp : Nat) (un : Nat) (gd : Option (List Code)) (cn : PySem.Str) (cs : Scope) (a : Addr) (ccd : Value) (cl : List (PySem.Str × Addr)) (outer : List Env) (A₀ : Around) (base : Heap) (h₀ : Heap) (L : Addr) (m : PySem.Str → Option Value) (s : Shared) (Q : Value → Shared → Prop) (E : Value → Shared → Prop) (z : Addr) (nz : Nat) (vh : List Value) (ve : List Value) (ne : Nat) (θ : Nat → Th) (ps : List Int) (P : Addr) (cP : Nat) : Prop :=
  ∀ (f : Nat) (S : S) (O : RealOk w r plan bl n) (B : Below A₀ base outer h₀) (F : Fr h₀ L s.heap m) (X : (hd.heap_1 w.params).In h₀) (T : Top p loose mean mg mb h₀) (hk : cs.kind = .function) (N : News h₀ L s.heap ((P, listOf (ps.map fun q => Value.ref (r.x q.toNat)).toArray cP) :: r.all w n z #[] nz vh ve ne θ)) (hvh : BoolsAre vh S.held) (hve : IntsAre ve S.log) (hS : S.Len n) (hR : RelR r n S θ) (hz : r.Zoff n z) (hC : Cz n S θ) (hin : ∀ q ∈ ps, 0 ≤ q ∧ q < (n : Int)) (hP : ∀ q ∈ r.all w n z #[] nz vh ve ne θ, @Ne Nat q.1 P) (hlp : ps.length ≤ 10) (hf : hc S.held ≤ f) (hd : dp + (8 * f + 4) < recursionLimit) (hu : un + 8 * (8 * f + 4) < cLine) (ret : ∀ h' tk' z' nz' vh' ve' ne' θ', Fr h₀ L h' m → News h₀ L h' ((P, listOf (ps.map fun q => Value.ref (r.x q.toNat)).toArray cP) :: r.all w n z' #[] nz' vh' ve' ne' θ') → BoolsAre vh' (allA plan bl f n S ps).held → IntsAre ve' (allA plan bl f n S ps).log →
    RelR r n (allA plan bl f n S ps) θ' → r.Zoff n z' → Cz n (allA plan bl f n S ps) θ' → (z' = z ∨ s.heap.get? z' = none) → Keep (P :: r.adrs n z) s.heap h' → Q .none { s with heap := h', toks := tk' }), wpAny (model Pr w) (ktrTop dp un gd cn cs L a ccd cl outer) (call (.ref 377) [.ref r.xc, .ref P]) Q E s
theorem neX : Nonempty XX := by
  refine ⟨?_⟩
  repeat' (first | exact default | exact aWorld 1 | constructor | intro _)
noncomputable def cX : XX := @Classical.epsilon XX neX fun x => ¬ St (x.1) (x.2.1) (x.2.2.1) (x.2.2.2.1) (x.2.2.2.2.1) (x.2.2.2.2.2.1) (x.2.2.2.2.2.2.1) (x.2.2.2.2.2.2.2.1) (x.2.2.2.2.2.2.2.2.1) (x.2.2.2.2.2.2.2.2.2.1) (x.2.2.2.2.2.2.2.2.2.2.1) (x.2.2.2.2.2.2.2.2.2.2.2.1) (x.2.2.2.2.2.2.2.2.2.2.2.2.1) (x.2.2.2.2.2.2.2.2.2.2.2.2.2.1) (x.2.2.2.2.2.2.2.2.2.2.2.2.2.2.1) (x.2.2.2.2.2.2.2.2.2.2.2.2.2.2.2.1) (x.2.2.2.2.2.2.2.2.2.2.2.2.2.2.2.2.1) (x.2.2.2.2.2.2.2.2.2.2.2.2.2.2.2.2.2.1) (x.2.2.2.2.2.2.2.2.2.2.2.2.2.2.2.2.2.2.1) (x.2.2.2.2.2.2.2.2.2.2.2.2.2.2.2.2.2.2.2.1) (x.2.2.2.2.2.2.2.2.2.2.2.2.2.2.2.2.2.2.2.2.1) (x.2.2.2.2.2.2.2.2.2.2.2.2.2.2.2.2.2.2.2.2.2.1) (x.2.2.2.2.2.2.2.2.2.2.2.2.2.2.2.2.2.2.2.2.2.2.1) (x.2.2.2.2.2.2.2.2.2.2.2.2.2.2.2.2.2.2.2.2.2.2.2.1) (x.2.2.2.2.2.2.2.2.2.2.2.2.2.2.2.2.2.2.2.2.2.2.2.2.1) (x.2.2.2.2.2.2.2.2.2.2.2.2.2.2.2.2.2.2.2.2.2.2.2.2.2.1) (x.2.2.2.2.2.2.2.2.2.2.2.2.2.2.2.2.2.2.2.2.2.2.2.2.2.2.1) (x.2.2.2.2.2.2.2.2.2.2.2.2.2.2.2.2.2.2.2.2.2.2.2.2.2.2.2.1) (x.2.2.2.2.2.2.2.2.2.2.2.2.2.2.2.2.2.2.2.2.2.2.2.2.2.2.2.2.1) (x.2.2.2.2.2.2.2.2.2.2.2.2.2.2.2.2.2.2.2.2.2.2.2.2.2.2.2.2.2.1) (x.2.2.2.2.2.2.2.2.2.2.2.2.2.2.2.2.2.2.2.2.2.2.2.2.2.2.2.2.2.2.1) (x.2.2.2.2.2.2.2.2.2.2.2.2.2.2.2.2.2.2.2.2.2.2.2.2.2.2.2.2.2.2.2.1) (x.2.2.2.2.2.2.2.2.2.2.2.2.2.2.2.2.2.2.2.2.2.2.2.2.2.2.2.2.2.2.2.2.1) (x.2.2.2.2.2.2.2.2.2.2.2.2.2.2.2.2.2.2.2.2.2.2.2.2.2.2.2.2.2.2.2.2.2.1) (x.2.2.2.2.2.2.2.2.2.2.2.2.2.2.2.2.2.2.2.2.2.2.2.2.2.2.2.2.2.2.2.2.2.2.1) (x.2.2.2.2.2.2.2.2.2.2.2.2.2.2.2.2.2.2.2.2.2.2.2.2.2.2.2.2.2.2.2.2.2.2.2)
@[irreducible] noncomputable def w := cX.1
@[irreducible] noncomputable def p := cX.2.1
@[irreducible] noncomputable def loose := cX.2.2.1
@[irreducible] noncomputable def mean := cX.2.2.2.1
@[irreducible] noncomputable def mg := cX.2.2.2.2.1
@[irreducible] noncomputable def mb := cX.2.2.2.2.2.1
@[irreducible] noncomputable def r := cX.2.2.2.2.2.2.1
@[irreducible] noncomputable def plan := cX.2.2.2.2.2.2.2.1
@[irreducible] noncomputable def bl := cX.2.2.2.2.2.2.2.2.1
@[irreducible] noncomputable def n := cX.2.2.2.2.2.2.2.2.2.1
@[irreducible] noncomputable def dp := cX.2.2.2.2.2.2.2.2.2.2.1
@[irreducible] noncomputable def un := cX.2.2.2.2.2.2.2.2.2.2.2.1
@[irreducible] noncomputable def gd := cX.2.2.2.2.2.2.2.2.2.2.2.2.1
@[irreducible] noncomputable def cn := cX.2.2.2.2.2.2.2.2.2.2.2.2.2.1
@[irreducible] noncomputable def cs := cX.2.2.2.2.2.2.2.2.2.2.2.2.2.2.1
@[irreducible] noncomputable def a := cX.2.2.2.2.2.2.2.2.2.2.2.2.2.2.2.1
@[irreducible] noncomputable def ccd := cX.2.2.2.2.2.2.2.2.2.2.2.2.2.2.2.2.1
@[irreducible] noncomputable def cl := cX.2.2.2.2.2.2.2.2.2.2.2.2.2.2.2.2.2.1
@[irreducible] noncomputable def outer := cX.2.2.2.2.2.2.2.2.2.2.2.2.2.2.2.2.2.2.1
@[irreducible] noncomputable def A₀ := cX.2.2.2.2.2.2.2.2.2.2.2.2.2.2.2.2.2.2.2.1
@[irreducible] noncomputable def base := cX.2.2.2.2.2.2.2.2.2.2.2.2.2.2.2.2.2.2.2.2.1
@[irreducible] noncomputable def h₀ := cX.2.2.2.2.2.2.2.2.2.2.2.2.2.2.2.2.2.2.2.2.2.1
@[irreducible] noncomputable def L := cX.2.2.2.2.2.2.2.2.2.2.2.2.2.2.2.2.2.2.2.2.2.2.1
@[irreducible] noncomputable def m := cX.2.2.2.2.2.2.2.2.2.2.2.2.2.2.2.2.2.2.2.2.2.2.2.1
@[irreducible] noncomputable def s := cX.2.2.2.2.2.2.2.2.2.2.2.2.2.2.2.2.2.2.2.2.2.2.2.2.1
@[irreducible] noncomputable def Q := cX.2.2.2.2.2.2.2.2.2.2.2.2.2.2.2.2.2.2.2.2.2.2.2.2.2.1
@[irreducible] noncomputable def E := cX.2.2.2.2.2.2.2.2.2.2.2.2.2.2.2.2.2.2.2.2.2.2.2.2.2.2.1
@[irreducible] noncomputable def z := cX.2.2.2.2.2.2.2.2.2.2.2.2.2.2.2.2.2.2.2.2.2.2.2.2.2.2.2.1
@[irreducible] noncomputable def nz := cX.2.2.2.2.2.2.2.2.2.2.2.2.2.2.2.2.2.2.2.2.2.2.2.2.2.2.2.2.1
@[irreducible] noncomputable def vh := cX.2.2.2.2.2.2.2.2.2.2.2.2.2.2.2.2.2.2.2.2.2.2.2.2.2.2.2.2.2.1
@[irreducible] noncomputable def ve := cX.2.2.2.2.2.2.2.2.2.2.2.2.2.2.2.2.2.2.2.2.2.2.2.2.2.2.2.2.2.2.1
@[irreducible] noncomputable def ne := cX.2.2.2.2.2.2.2.2.2.2.2.2.2.2.2.2.2.2.2.2.2.2.2.2.2.2.2.2.2.2.2.1
@[irreducible] noncomputable def θ := cX.2.2.2.2.2.2.2.2.2.2.2.2.2.2.2.2.2.2.2.2.2.2.2.2.2.2.2.2.2.2.2.2.1
@[irreducible] noncomputable def ps := cX.2.2.2.2.2.2.2.2.2.2.2.2.2.2.2.2.2.2.2.2.2.2.2.2.2.2.2.2.2.2.2.2.2.1
@[irreducible] noncomputable def P := cX.2.2.2.2.2.2.2.2.2.2.2.2.2.2.2.2.2.2.2.2.2.2.2.2.2.2.2.2.2.2.2.2.2.2.1
@[irreducible] noncomputable def cP := cX.2.2.2.2.2.2.2.2.2.2.2.2.2.2.2.2.2.2.2.2.2.2.2.2.2.2.2.2.2.2.2.2.2.2.2
theorem core : St w p loose mean mg mb r plan bl n dp un gd cn cs a ccd cl outer A₀ base h₀ L m s Q E z nz vh ve ne θ ps P cP := by
  unfold St
  intro f S O B F X T hk N hvh hve hS hR hz hC hin hP hlp hf hd hu ret
  unfold Pr
  revert X; k_fill; intro X
  have N2 : News h₀ L s.heap (((P, listOf (ps.map fun q => Value.ref (r.x q.toNat)).toArray cP) :: r.ex w n z #[] nz vh ve ne) ++ r.ths w n θ) := N
  have hoff : AllOff (r.ths w n θ) ((P, listOf (ps.map fun q => Value.ref (r.x q.toNat)).toArray cP) :: r.ex w n z #[] nz vh ve ne) := fun q hq q' hq' e => by
    have ho := RealA.ths_off O hz q hq
    rcases List.mem_cons.mp hq' with rfl | hq'
    · exact hP q (List.mem_append_right _ hq) e
    · rcases RealA.ex_adr q' hq' with e2 | e2
      · exact ho.1 (e ▸ e2)
      · exact ho.2 (e.trans e2)
  refine wpAny_call ?_
  k_dflt (refine' code_defG2 B F N2 hoff X T ?kA ?kF ?kK ?ko ?kc ?kr ?kb ?kl ?_ ?c1 ?c2 ?c3 ?c4)
  case kA => exact rfl
  case kF => exact rfl
  case kK => assumption
  case ko => k_dflt k_is
  case kc => k_dflt k_is
  case kr => ktr_room
  case kb => exact BindsTo.of_eq rfl
  case kl => exact locs rfl
  case c1 => exact rfl
  case c2 => exact rfl
  case c3 => exact rfl
  case c4 => decide
  intro g g₁ L' h₁ hReb ⟨GB, GX, GT, kg⟩ FG F' N' B' X' T' l1 hlt lL
  dsimp only [RealA.ex] at N' l1
  k_lt l1
  repeat' ((fail_if_success (with_reducible show wpAny _ _ (exec (Stmt.For _ _ _ _ _) _) _ _ _)); first | (k_unfold; (try dsimp only)) | walk1 | (dsimp only; walk1) | fail "no step")
  rename News _ _ _ _ => N9
  rename Fr _ _ _ _ => F9
  rename Obj.IsDictOf (intKind _ _) _ _ => hD0
  rename (_ == sysModules) = false => loD
  obtain ⟨D, ez⟩ : ∃ D, D = adr0 N9 := ⟨_, rfl⟩
  dsimp only [adr0] at ez
  subst ez
  have NR : News g L' _ (r.ths w n θ) := fun q hq => ⟨F9.keep _ _ (hReb.rest q hq).1, Nat.ne_of_lt (hReb.rest q hq).2.1, (hReb.rest q hq).2.2⟩
  have Nall : News g L' _ ((D, _) :: (P, listOf (ps.map fun q => Value.ref (r.x q.toNat)).toArray cP) :: r.all w n z #[] nz vh ve ne θ) := fun q hq => by
    rcases List.mem_cons.mp hq with rfl | hq
    · exact hReb.ex N9 _ (.head _)
    · rcases List.mem_cons.mp hq with rfl | hq
      · exact hReb.ex N9 _ (.tail _ (.head _))
      · rcases List.mem_append.mp hq with hq | hq
        · exact hReb.ex N9 _ (.tail _ (.tail _ hq))
        · exact NR q hq
  have offD : ∀ q ∈ r.all w n z #[] nz vh ve ne θ, @Ne Nat q.1 D := fun q hq e => by
    rcases List.mem_append.mp hq with h | h
    · have h2 := kg q.1
      have h3 : ∀ q ∈ r.ex w n z #[] nz vh ve ne, @Ne Nat q.1 D := by dsimp only [RealA.ex]; simp only [List.forall_mem_cons]; (repeat' apply And.intro) <;> first | exact Nat.ne_of_lt (by with_reducible assumption) | exact (fun _ h => nomatch h) | omega
      exact h3 q h e
    · have := (hReb.rest q h).1
      rw [e, (N9 _ (.head _)).2.2] at this; cases this
  have hPD : @Ne Nat P D := by omega
  have F10 := hReb.fr F9
  (with_unfolding_all refine' For_invVF F10 ?kk1 ?kk2 ?_)
  case kk1 => exact rfl
  case kk2 => exact rfl
  clear F10
  repeat' ((fail_if_success (with_reducible show wpAny _ _ (pyIter _) _ _ _)); first | (k_unfold; (try dsimp only)) | walk1 | (dsimp only; walk1) | fail "no step")
  have F10 := hReb.fr F9
  clear N9 F9 NR
  refine iter_listN2 (vs := ps.map fun q => Value.ref (r.x q.toNat)) (c := cP) (R := fun us i nx => us = (ps.drop i).map (fun q => Value.ref (r.x q.toNat)) ∧ ∃ od kvs, nx = (D, od) :: (P, listOf (ps.map fun q => Value.ref (r.x q.toNat)).toArray cP) :: r.all w n z #[] nz vh ve ne θ ∧ od.IsDictOf (intKind PySem.Challenge.rw_qz0092_01.row.prog w) kvs ∧ kvs.length ≤ i ∧ i ≤ ps.length ∧ SelF r n bl S kvs (ps.take i))
      (fun i _ => i + 1) 0 (by rfl) F10 Nall (.tail _ (.head _)) ⟨rfl, _, [], rfl, hD0, Nat.le_refl _, Nat.zero_le _, fun k => ⟨(fun h => nomatch h), (fun ⟨_, h, _⟩ => nomatch h)⟩, (fun _ h => nomatch h)⟩ ?_ ?_ ?_
  · rintro us i nx ⟨_, od, kvs, rfl, _⟩
    exact .tail _ (.head _)
  · intro v us i nx I it h2 tk2 hRR0 hoffI F2 N2'
    refine Classical.byContradiction fun hGo => ?_
    (obtain ⟨eu, od, kvs, rfl, b1, b2, b3, b4⟩ := hRR0) <;> (refine hGo ?_; clear hGo)
    obtain ⟨q, hq, rfl, eus⟩ : ∃ q, ps[i]? = some q ∧ v = Value.ref (r.x q.toNat) ∧ us = (ps.drop (i + 1)).map (fun q => Value.ref (r.x q.toNat)) := by
      cases hd : ps.drop i with
      | nil => rw [hd] at eu; cases eu
      | cons q rs =>
        rw [hd] at eu
        obtain ⟨e1, e2⟩ := List.cons.inj eu
        have h1 : ps[i]? = some q := by rw [← List.head?_drop, hd]; rfl
        have h2 : rs = ps.drop (i + 1) := by rw [← List.tail_drop, hd]; rfl
        exact ⟨q, h1, e1, h2 ▸ e2⟩
    have htake : ps.take (i + 1) = ps.take i ++ [q] := by rw [List.take_add_one, hq]; rfl
    have hi : i < ps.length := by
      have := List.getElem?_eq_some_iff.mp hq
      exact this.1
    obtain ⟨q0, q1⟩ := hin q (List.mem_of_getElem? hq)
    have hp : q.toNat < n := by omega
    have hfr := hR.freed q.toNat hp
    have hds := hR.dest q.toNat hp
    obtain ⟨y1, y2⟩ := O.bless q.toNat hp
    have skip : ∀ tk, selP bl S q.toNat = false → TurnN g L' _ _ (fun nx => us = (ps.drop (i + 1)).map (fun q => Value.ref (r.x q.toNat)) ∧ ∃ od kvs, nx = (D, od) :: (P, listOf (ps.map fun q => Value.ref (r.x q.toNat)).toArray cP) :: r.all w n z #[] nz vh ve ne θ ∧ od.IsDictOf (intKind PySem.Challenge.rw_qz0092_01.row.prog w) kvs ∧ kvs.length ≤ i + 1 ∧ i + 1 ≤ ps.length ∧ SelF r n bl S kvs (ps.take (i + 1))) I it { s with heap := h2, toks := tk2 } (fun _ _ => True) .next { s with heap := h2, toks := tk } :=
      fun tk hsel => ⟨h2, tk, _, _, rfl, F2, N2', hoffI, eus, od, kvs, rfl, b1, by omega, by omega, htake ▸ b4.skip hsel⟩
    obtain ⟨g2, R2, hReb2, F4, N5, ho5, hs5, hs6⟩ := reopen (k := q.toNat) (Xr := [(r.x q.toNat, instObj 78 (r.d q.toNat))]) (Y := [(I, it), (D, od), (P, listOf (ps.map fun q => Value.ref (r.x q.toNat)).toArray cP)]) F2 (fun p hp => N2' p (.tail _ (.tail _ (.tail _ hp)))) hp (fun q hq => by rcases List.mem_cons.mp hq with rfl | hq; exact .head _; cases hq) hlt (fun p hp => by
        replace hp := mem_ors hp
        rcases hp with rfl | rfl | rfl
        · exact N2' _ (.head _)
        · exact N2' _ (.tail _ (.head _))
        · exact N2' _ (.tail _ (.tail _ (.head _)))) (fun p hp q hq => by
        replace hq := mem_ors hq
        rcases hq with rfl | rfl | rfl
        · exact hoffI p (.tail _ (.tail _ (List.mem_append_right _ hp)))
        · exact offD p (List.mem_append_right _ hp)
        · exact hP p (List.mem_append_right _ hp))
    have X2 := GX.keeps hReb2.sub
    have T2 := GT.keeps hReb2.sub
    have B2 := below_up GB hReb2
    have hID : @Ne Nat D I := hoffI (D, od) (.head _)
    have hPI : @Ne Nat P I := hoffI (P, _) (.tail _ (.head _))
    have keepF := fun _ : Unit => F2
    clear F2
    dsimp only [RealA.ex, RealA.thD, RealA.all, Th.obj] at N5
    dsimp only [List.cons_append, List.nil_append] at N5
    cases ebl : bl.getD q.toNat false with
    | false =>
      have hbv := y2 ebl
      simp only [hbv] at N5
      (try k_fold)
      repeat' (first | (k_unfold; (try dsimp only)) | walk1 | (dsimp only; walk1) | fail "no step")
      all_goals exact skip _ (selP_off (.inr (.inr ebl)))
    | true =>
      obtain ⟨tbl, hbv⟩ := y1 ebl
      simp only [hbv] at N5
      (try k_fold)
      repeat' ((fail_if_success (with_reducible show wpAny _ _ (setItem _ _ _) _ _ _)); first | (k_unfold; (try dsimp only)) | walk1 | (dsimp only; walk1) | fail "no step")
      all_goals try (exact skip _ (selP_off (.inl (by rw [← hfr]; with_reducible assumption))))
      all_goals try (exact skip _ (selP_off (.inr (.inl (by rw [← hds]; with_reducible assumption)))))
      rename (θ q.toNat).freed = false => f1
      rename (θ q.toNat).dest = false => f2
      have hsel : selP bl S q.toNat = true := selP_on (by rw [← hfr]; exact f1) (by rw [← hds]; exact f2) ebl
      refine kda_set (keepF ()) N2' (.tail (Ne.symm hID) (.head fun p hp => ?_)) b1 isInt_key (by rw [PySem.sizeLine_eq]; omega) ?_
      · rcases List.mem_cons.mp hp with rfl | hp
        · exact hPD
        · exact offD p hp
      intro h5 od5 F5 N6 hd5
      clear F4 N5 X2 T2 B2
      dsimp only
      repeat' (first | (k_unfold; (try dsimp only)) | walk1 | (dsimp only; walk1) | fail "no step")
      refine ⟨h5, _, _, _, rfl, F5, N6, ?_, eus, od5, _, rfl, hd5, ?_, by omega, htake ▸ b4.take q0 q1 hsel⟩
      · intro p hp
        rcases List.mem_cons.mp hp with rfl | hp
        · exact hID
        · exact hoffI p (.tail _ hp)
      · have := stored_length_le kvs ((q.toNat : Int) + 1) (.ref (r.x q.toNat)); omega
  · intro v nx h3 tk3 hRR0 F3 N3
    refine Classical.byContradiction fun hGo => ?_
    (obtain ⟨e0, od, kvs, rfl, b1, b2, b3, b4⟩ := hRR0) <;> (refine hGo ?_; clear hGo)
    rw [count_fold, List.length_map, Nat.zero_add] at b2 b4
    rw [List.take_length] at b4
    have hnd := keysNodup_of_isDictOf b1
    clear F10 Nall
    dsimp only
    repeat' ((fail_if_success (with_reducible show wpAny _ _ (exec (Stmt.For _ _ _ _ _) _) _ _ _)); first | (k_unfold; (try dsimp only)) | walk1 | (dsimp only; walk1) | fail "no step")
    (with_unfolding_all refine' For_invVF F3 ?kk1 ?kk2 ?_)
    case kk1 => exact rfl
    case kk2 => exact rfl
    repeat' ((fail_if_success (with_reducible show wpAny _ _ (call (Value.builtin "sorted") _) _ _ _)); first | (k_unfold; (try dsimp only)) | walk1 | (dsimp only; walk1) | fail "no step")
    refine sorted_dict loD (by rfl) F3 N3 (.head _) b1 (by omega) fun D2 h4 tk4 c2 vs ns F4 N4 l4 hI hperm hord => ?_
    have hnum := b4.nums hin hnd hperm hord
    have hmemk : ∀ k ∈ ns, k ∈ kvs.map (·.1) := fun k hk => (hperm.mem_iff).mp hk
    have hDD : @Ne Nat D D2 := Nat.ne_of_lt (l4 (D, od) (.head _))
    have hPD2 : @Ne Nat P D2 := Nat.ne_of_lt (l4 (P, _) (.tail _ (.head _)))
    have offD2 : ∀ q ∈ r.all w n z #[] nz vh ve ne θ, @Ne Nat q.1 D2 := fun q hq => Nat.ne_of_lt (l4 q (.tail _ (.tail _ hq)))
    clear F3 N3
    have hz0 : @Ne Nat z D := offD (z, listOf #[] nz) (List.mem_append_left _ (by k_mem))
    have hz2 : @Ne Nat z D2 := offD2 (z, listOf #[] nz) (List.mem_append_left _ (by k_mem))
    have hz3 : @Ne Nat z P := hP (z, listOf #[] nz) (List.mem_append_left _ (by k_mem))
    refine iter_listY (PySem.Str.ofString "thing") (vs := vs) (c := c2) (R := fun us A nx => ∃ z' nz' vh' ve' ne' θ' ns', nx = (D2, listOf vs.toArray c2) :: (D, od) :: (P, listOf (ps.map fun q => Value.ref (r.x q.toNat)).toArray cP) :: r.all w n z' #[] nz' vh' ve' ne' θ' ∧ BoolsAre vh' A.held ∧ IntsAre ve' A.log ∧ Mine.S.Len A n ∧ RelR r n A θ' ∧ r.Zoff n z' ∧ Cz n A θ' ∧ hc A.held ≤ f ∧ (z' = z ∨ s.heap.get? z' = none) ∧ @Ne Nat z' D ∧ @Ne Nat z' D2 ∧ @Ne Nat z' P ∧ IntsAre us ns' ∧ ∀ k ∈ ns', k ∈ kvs.map (·.1)) (allV plan bl f) S (by rfl) F4 N4 (.head _)
      ⟨_, _, _, _, _, _, _, rfl, hvh, hve, hS, hR, hz, hC, hf, .inl rfl, hz0, hz2, hz3, hI, hmemk⟩ ?_ ?_ ?_
    · rintro us A nx ⟨z', nz', vh', ve', ne', θ', ns', rfl, _⟩
      exact .head _
    · intro v1 us A nx I it h5 tk5 u hRR0 hoffI F5 N5
      refine Classical.byContradiction fun hGo => ?_
      (obtain ⟨z', nz', vh', ve', ne', θ', ns', rfl, c1, c2', c3, c4, c5, c6, c7, c8, c9, c10, c11, c12, c13⟩ := hRR0) <;> (refine hGo ?_; clear hGo)
      obtain ⟨k, t, ns'', rfl, rfl, c14⟩ : ∃ k t ns'', v1 = Value.int k t ∧ ns' = k :: ns'' ∧ IntsAre us ns'' := by cases c12 with | cons q t h => exact ⟨q, t, _, rfl, rfl, h⟩
      obtain ⟨q, q0, q1, ek, hval⟩ := b4.at hnd (c13 k List.mem_cons_self)
      have c15 : ∀ k ∈ ns'', k ∈ kvs.map (·.1) := fun k hk => c13 k (List.mem_cons_of_mem _ hk)
      subst ek
      have hp : q.toNat < n := by omega
      clear F4 N4
      (try k_fold)
      repeat' ((fail_if_success (with_reducible show wpAny _ _ (subscriptTail _ _ _ _) _ _ _)); first | (k_unfold; (try dsimp only)) | walk1 | (dsimp only; walk1) | fail "no step")
      refine kda_item (knd := intKind _ _) N5 (.tail _ (.tail _ (.head _))) b1 isInt_key hval ?_
      repeat' ((fail_if_success (with_reducible show wpAny _ _ (exec (Stmt.If _ _ _ _) _) _ _ _)); first | (k_unfold; (try dsimp only)) | walk1 | (dsimp only; walk1) | fail "no step")
      rename News _ _ _ _ => N6
      rename Fr _ _ _ _ => F6
      have offI : ∀ q ∈ r.all w n z' #[] nz' vh' ve' ne' θ', @Ne Nat q.1 I := fun q hq => hoffI q (.tail _ (.tail _ (.tail _ hq)))
      have offD' : ∀ q ∈ r.all w n z' #[] nz' vh' ve' ne' θ', @Ne Nat q.1 D := RealA.off_z offD c9
      have offD2' : ∀ q ∈ r.all w n z' #[] nz' vh' ve' ne' θ', @Ne Nat q.1 D2 := RealA.off_z offD2 c10
      have offP' : ∀ q ∈ r.all w n z' #[] nz' vh' ve' ne' θ', @Ne Nat q.1 P := RealA.off_z hP c11
      obtain ⟨g2, R2, hReb2, F7, N7, ho7, hs7, hs8⟩ := reopen (k := q.toNat) (Xr := [(r.x q.toNat, instObj 78 (r.d q.toNat))]) (Y := [(I, it), (D2, listOf vs.toArray c2), (D, od), (P, listOf (ps.map fun q => Value.ref (r.x q.toNat)).toArray cP)]) F6 (fun p hp => N6 p (.tail _ (.tail _ (.tail _ (.tail _ hp))))) hp (fun q hq => by rcases List.mem_cons.mp hq with rfl | hq; exact .head _; cases hq) (RealA.ths_lt hlt) (fun p hp => by
          replace hp := mem_ors hp
          rcases hp with rfl | rfl | rfl | rfl
          · exact N6 _ (.head _)
          · exact N6 _ (.tail _ (.head _))
          · exact N6 _ (.tail _ (.tail _ (.head _)))
          · exact N6 _ (.tail _ (.tail _ (.tail _ (.head _))))) (fun p hp q hq => by
          replace hq := mem_ors hq
          rcases hq with rfl | rfl | rfl | rfl
          · exact offI p (List.mem_append_right _ hp)
          · exact offD2' p (List.mem_append_right _ hp)
          · exact offD' p (List.mem_append_right _ hp)
          · exact offP' p (List.mem_append_right _ hp))
      have X2 := GX.keeps hReb2.sub
      have T2 := GT.keeps hReb2.sub
      have B2 := below_up GB hReb2
      have hne1 : @Ne Nat (r.x q.toNat) (r.d q.toNat) := Ne.symm (O.dro _ _ hp hp).1
      have hnd2 : ∀ b ∈ r.adr, @Ne Nat b (r.d q.toNat) := fun b hb e => O.dadr _ hp (e ▸ hb)
      simp only [List.forall_mem_cons, List.forall_mem_nil, and_true] at hnd2
      (repeat ((have hq9 := And.left hnd2); (replace hnd2 := And.right hnd2)))
      have hne2 : @Ne Nat z' (r.d q.toNat) := (c5.2 _ hp).1
      have hne3 : @Ne Nat I (r.d q.toNat) := Ne.symm (offI (r.thD w θ' q.toNat) (List.mem_append_right _ (r.ths_d hp)))
      have hne4 : @Ne Nat D (r.d q.toNat) := Ne.symm (offD' (r.thD w θ' q.toNat) (List.mem_append_right _ (r.ths_d hp)))
      have hne5 : @Ne Nat D2 (r.d q.toNat) := Ne.symm (offD2' (r.thD w θ' q.toNat) (List.mem_append_right _ (r.ths_d hp)))
      have hne6 : @Ne Nat P (r.d q.toNat) := Ne.symm (offP' (r.thD w θ' q.toNat) (List.mem_append_right _ (r.ths_d hp)))
      have hfr := c4.freed q.toNat hp
      have hds := c4.dest q.toNat hp
      have eV : allV plan bl f A (.int (q + 1) t) = toldStep plan bl f A q := by show toldStep plan bl f A (q + 1 - 1) = _; rw [Int.add_sub_cancel]
      have F6' := fr_swap (by decide) F6
      have hoffI' : ∀ p ∈ (D2, listOf vs.toArray c2) :: (D, od) :: (P, listOf (ps.map fun q => Value.ref (r.x q.toNat)).toArray cP) :: r.all w n z' #[] nz' vh' ve' ne' θ', p.1 ≠ I := hoffI
      have skip : ∀ tk, (A.done.getD q.toNat false = true ∨ A.freed.getD q.toNat false = true) → TurnY g L' _ (PySem.Str.ofString "number") (PySem.Str.ofString "thing") (fun nx => ∃ z' nz' vh' ve' ne' θ' ns', nx = (D2, listOf vs.toArray c2) :: (D, od) :: (P, listOf (ps.map fun q => Value.ref (r.x q.toNat)).toArray cP) :: r.all w n z' #[] nz' vh' ve' ne' θ' ∧ BoolsAre vh' (allV plan bl f A (.int (q + 1) t)).held ∧ IntsAre ve' (allV plan bl f A (.int (q + 1) t)).log ∧ Mine.S.Len (allV plan bl f A (.int (q + 1) t)) n ∧ RelR r n (allV plan bl f A (.int (q + 1) t)) θ' ∧ r.Zoff n z' ∧ Cz n (allV plan bl f A (.int (q + 1) t)) θ' ∧ hc (allV plan bl f A (.int (q + 1) t)).held ≤ f ∧ (z' = z ∨ s.heap.get? z' = none) ∧ @Ne Nat z' D ∧ @Ne Nat z' D2 ∧ @Ne Nat z' P ∧ IntsAre us ns' ∧ ∀ k ∈ ns', k ∈ kvs.map (·.1)) I it { s with heap := h5, toks := tk5 } (fun _ _ => True) .cont { s with heap := _, toks := tk } := fun tk hoffk => by
        rw [eV, toldStep_off hoffk]
        exact ⟨_, tk, _, _, _, rfl, F6', N6, hoffI', z', nz', vh', ve', ne', θ', ns'', rfl, c1, c2', c3, c4, c5, c6, c7, c8, c9, c10, c11, c14, c15⟩
      clear F6 F6'
      dsimp only [RealA.ex, RealA.thD, RealA.all, Th.obj] at N7
      dsimp only [List.cons_append, List.nil_append] at N7
      clear N5 N6
      (try k_fold)
      repeat' ((fail_if_success (with_reducible show wpAny _ _ (call (Value.ref _) _) _ _ _)); first | (k_unfold; (try dsimp only)) | walk1 | (dsimp only; walk1) | fail "no step")
      all_goals try (exact skip _ (.inr (by rw [← hfr]; with_reducible assumption)))
      all_goals try (exact skip _ (.inl (by rw [← hds]; with_reducible assumption)))
      rename (θ' q.toNat).freed = false => f1
      rename (θ' q.toNat).dest = false => f2
      have f1' : A.freed.getD q.toNat false = false := by rw [← hfr]; exact f1
      have f2' : A.done.getD q.toNat false = false := by rw [← hds]; exact f2
      rename News _ _ _ _ => N9
      rename Fr _ _ _ _ => F9
      have NR : News g L' _ R2 := fun q hq => ⟨F9.keep _ _ (hReb2.rest q hq).1, Nat.ne_of_lt (hReb2.rest q hq).2.1, (hReb2.rest q hq).2.2⟩
      obtain ⟨t1, ht, e1, e2, e3, e4, e5⟩ := news_th w.params (r.d q.toNat) N9 (by k_mem)
      have N1 : News g L' _ (r.ex w n z' #[] nz' vh' ve' ne') := hReb2.ex (news_sub N9 (by dsimp only [RealA.ex]; lcg_sub))
      have N3 : News g L' _ [(r.x q.toNat, instObj 78 (r.d q.toNat))] := hReb2.ex (news_sub N9 (by lcg_sub))
      have NY : News g L' _ [(I, it), (D2, listOf vs.toArray c2), (D, od), (P, listOf (ps.map fun q => Value.ref (r.x q.toNat)).toArray cP)] := hReb2.ex (news_sub N9 (by lcg_sub))
      have Nall := refocusU O c5 hp N1 (hReb2.ex ht) N3 NR hs7
      have F10 := hReb2.fr F9
      have hS1 : Mine.S.Len { A with done := A.done.set q.toNat true } n := ⟨c3.held, by simp [c3.done], c3.freed, Nat.le_trans c3.log (by rw [ct_set f2' (by rw [c3.done]; exact hp)]; omega)⟩
      have hR1 := relR_markH (t := t1) c4 c3.done hp e2 (by rw [e5]) e1 e3 e4
      have hC1 : Cz n { A with done := A.done.set q.toNat true } (upd θ' q.toNat t1) := fun j hj hh => by
        by_cases ej : j = q.toNat
        · rw [ej, upd_self, e1]; exact c6 _ hp (ej ▸ hh)
        · rw [upd_ne ej]; exact c6 j hj hh
      have IH := real_dest (p := p) (loose := loose) (mean := mean) (mg := mg) (mb := mb) O f
      unfold DestR RSpec at IH
      k_dflt (refine' IH _ _ _ _ _ _ _ _ _ _ _ _ _ _ _ _ _ z' nz' vh' ve' ne' (upd θ' q.toNat t1) { A with done := A.done.set q.toNat true } q 0 GB F10 GX GT ?k5 Nall c1 c2' hS1 hR1 c5 q0 q1 ⟨?kp, c7⟩ ?kd ?ku ?_)
      case k5 => rfl
      case kp => have := c3.log; show A.log.length + 1 ≤ (A.done.set q.toNat true).count true; rw [ct_set f2' (by rw [c3.done]; exact hp)]; omega
      case kd => ktr_room
      case ku => ktr_units
      intro h7 tk7 z7 nz7 vh7 ve7 ne7 θ7 F7 N7 d1 d2 d3 d4 d5 d6 kp7
      have offs : ∀ a ∈ [I, D2, D, P], a ∉ r.adrs n z' := fun a ha hm => by
        obtain ⟨q', hq', e⟩ := RealA.adrs_mem (w := w) (zs := #[]) (nz := nz') (vh := vh') (ve := ve') (ne := ne') (θ := θ') hm
        replace ha := mem_ors ha
        rcases ha with rfl | rfl | rfl | rfl
        · exact offI q' hq' e
        · exact offD2' q' hq' e
        · exact offD' q' hq' e
        · exact offP' q' hq' e
      have NY7 := kp7.news NY (fun p hp => offs p.1 (List.mem_map_of_mem (f := Prod.fst) hp))
      have zne : ∀ a o, (a, o) ∈ [(I, it), (D2, listOf vs.toArray c2), (D, od), (P, listOf (ps.map fun q => Value.ref (r.x q.toNat)).toArray cP)] → @Ne Nat z' a → @Ne Nat z7 a := fun a o ha hz' e => by
        rcases d6 with e6 | e6
        · exact hz' (e6.symm.trans e)
        · have := (NY (a, o) ha).1
          rw [← e, e6] at this; cases this
      have zI := zne I _ (.head _) (offI (z', listOf #[] nz') (List.mem_append_left _ (by k_mem)))
      have zD2 := zne D2 _ (.tail _ (.head _)) c10
      have zD := zne D _ (.tail _ (.tail _ (.head _))) c9
      have zP := zne P _ (.tail _ (.tail _ (.tail _ (.head _)))) c11
      have z7z : z7 = z ∨ s.heap.get? z7 = none := by
        rcases d6 with e6 | e6
        · rw [e6]; exact c8
        · cases e7 : s.heap.get? z7 with
          | none => exact .inr rfl
          | some o =>
            by_cases hm : z7 ∈ (((P, listOf (ps.map fun q => Value.ref (r.x q.toNat)).toArray cP) :: r.ex w n z #[] nz vh ve ne) ++ r.ths w n θ).map (·.1)
            · obtain ⟨q', hq', e8⟩ := List.mem_map.mp hm
              have hq2 : q' ∈ (P, listOf (ps.map fun q => Value.ref (r.x q.toNat)).toArray cP) :: r.all w n z #[] nz vh ve ne θ := hq'
              rcases List.mem_cons.mp hq2 with rfl | hq2
              · exact absurd e8.symm zP
              · rcases RealA.adrs_z (z' := z') (RealA.mem_adrs hq2) with h5 | h5
                · exact .inl (e8.symm.trans h5)
                · obtain ⟨q3, hq3, e9⟩ := RealA.adrs_mem (w := w) (zs := #[]) (nz := nz') (vh := vh') (ve := ve') (ne := ne') (θ := upd θ' q.toNat t1) h5
                  have := (Nall q3 hq3).1
                  rw [e9, e8, e6] at this; cases this
            · have := F10.keep _ _ (kg _ _ e7 hm)
              rw [e6] at this; cases this
      have eT : allV plan bl f A (.int (q + 1) t) = destA plan bl f { A with done := A.done.set q.toNat true } q := eV.trans (toldStep_destA f2' f1')
      clear N9 F9 F10 NR N1 N3 Nall ht X2 T2 B2
      have F7' := fr_swap (by decide) F7
      dsimp only
      repeat' (first | (k_unfold; (try dsimp only)) | walk1 | (dsimp only; walk1) | fail "no step")
      refine ⟨h7, _, _, _, (D2, listOf vs.toArray c2) :: (D, od) :: (P, listOf (ps.map fun q => Value.ref (r.x q.toNat)).toArray cP) :: r.all w n z7 #[] nz7 vh7 ve7 ne7 θ7, rfl, F7', fun p hp => ?_, fun p hp => ?_, z7, nz7, vh7, ve7, ne7, θ7, ns'', rfl, ?_⟩
      · rcases List.mem_cons.mp hp with rfl | hp
        · exact NY7 _ (.head _)
        · rcases List.mem_cons.mp hp with rfl | hp
          · exact NY7 _ (.tail _ (.head _))
          · rcases List.mem_cons.mp hp with rfl | hp
            · exact NY7 _ (.tail _ (.tail _ (.head _)))
            · rcases List.mem_cons.mp hp with rfl | hp
              · exact NY7 _ (.tail _ (.tail _ (.tail _ (.head _))))
              · exact N7 p hp
      · rcases List.mem_cons.mp hp with rfl | hp
        · exact hoffI' _ (.head _)
        · rcases List.mem_cons.mp hp with rfl | hp
          · exact hoffI' _ (.tail _ (.head _))
          · rcases List.mem_cons.mp hp with rfl | hp
            · exact hoffI' _ (.tail _ (.tail _ (.head _)))
            · exact RealA.off_z offI zI p hp
      · rw [eT]
        exact ⟨d1, d2, by rw [← toldStep_destA f2' f1']; exact toldStep_len O.inplan c3 q0 q1, d3, d4, hC1.left d5, Nat.le_trans (hc_fold _ _) c7, z7z, zD, zD2, zP, c14, c15⟩
    · intro v1 u nx h8 tk8 hRR0 F8 N8
      refine Classical.byContradiction fun hGo => ?_
      (obtain ⟨z', nz', vh', ve', ne', θ', ns', rfl, c1, c2', c3, c4, c5, c6, c7, c8, c9, c10, c11, c12, c13⟩ := hRR0) <;> (refine hGo ?_; clear hGo)
      rw [allA_of hI hnum] at c1 c2' c4 c6
      clear F4 N4
      dsimp only
      repeat' (first | (k_unfold; (try dsimp only)) | walk1 | (dsimp only; walk1) | fail "no step")
      rename Keep _ _ _ => kp
      rename News h₀ _ _ _ => NL
      refine ret _ _ _ _ _ _ _ _ (by k_asm) (fun p hp => NL p (.tail _ (.tail _ hp))) c1 c2' c4 c5 c6 c8 (kp.mono fun b hb => ?_)
      obtain ⟨q', hq', e8⟩ := List.mem_map.mp hb
      have hq2 : q' ∈ (P, listOf (ps.map fun q => Value.ref (r.x q.toNat)).toArray cP) :: r.all w n z #[] nz vh ve ne θ := hq'
      rcases List.mem_cons.mp hq2 with rfl | hq2
      · rw [← e8]; exact .head _
      · rw [← e8]; exact .tail _ (RealA.mem_adrs hq2)
theorem all (x : XX) : St (x.1) (x.2.1) (x.2.2.1) (x.2.2.2.1) (x.2.2.2.2.1) (x.2.2.2.2.2.1) (x.2.2.2.2.2.2.1) (x.2.2.2.2.2.2.2.1) (x.2.2.2.2.2.2.2.2.1) (x.2.2.2.2.2.2.2.2.2.1) (x.2.2.2.2.2.2.2.2.2.2.1) (x.2.2.2.2.2.2.2.2.2.2.2.1) (x.2.2.2.2.2.2.2.2.2.2.2.2.1) (x.2.2.2.2.2.2.2.2.2.2.2.2.2.1) (x.2.2.2.2.2.2.2.2.2.2.2.2.2.2.1) (x.2.2.2.2.2.2.2.2.2.2.2.2.2.2.2.1) (x.2.2.2.2.2.2.2.2.2.2.2.2.2.2.2.2.1) (x.2.2.2.2.2.2.2.2.2.2.2.2.2.2.2.2.2.1) (x.2.2.2.2.2.2.2.2.2.2.2.2.2.2.2.2.2.2.1) (x.2.2.2.2.2.2.2.2.2.2.2.2.2.2.2.2.2.2.2.1) (x.2.2.2.2.2.2.2.2.2.2.2.2.2.2.2.2.2.2.2.2.1) (x.2.2.2.2.2.2.2.2.2.2.2.2.2.2.2.2.2.2.2.2.2.1) (x.2.2.2.2.2.2.2.2.2.2.2.2.2.2.2.2.2.2.2.2.2.2.1) (x.2.2.2.2.2.2.2.2.2.2.2.2.2.2.2.2.2.2.2.2.2.2.2.1) (x.2.2.2.2.2.2.2.2.2.2.2.2.2.2.2.2.2.2.2.2.2.2.2.2.1) (x.2.2.2.2.2.2.2.2.2.2.2.2.2.2.2.2.2.2.2.2.2.2.2.2.2.1) (x.2.2.2.2.2.2.2.2.2.2.2.2.2.2.2.2.2.2.2.2.2.2.2.2.2.2.1) (x.2.2.2.2.2.2.2.2.2.2.2.2.2.2.2.2.2.2.2.2.2.2.2.2.2.2.2.1) (x.2.2.2.2.2.2.2.2.2.2.2.2.2.2.2.2.2.2.2.2.2.2.2.2.2.2.2.2.1) (x.2.2.2.2.2.2.2.2.2.2.2.2.2.2.2.2.2.2.2.2.2.2.2.2.2.2.2.2.2.1) (x.2.2.2.2.2.2.2.2.2.2.2.2.2.2.2.2.2.2.2.2.2.2.2.2.2.2.2.2.2.2.1) (x.2.2.2.2.2.2.2.2.2.2.2.2.2.2.2.2.2.2.2.2.2.2.2.2.2.2.2.2.2.2.2.1) (x.2.2.2.2.2.2.2.2.2.2.2.2.2.2.2.2.2.2.2.2.2.2.2.2.2.2.2.2.2.2.2.2.1) (x.2.2.2.2.2.2.2.2.2.2.2.2.2.2.2.2.2.2.2.2.2.2.2.2.2.2.2.2.2.2.2.2.2.1) (x.2.2.2.2.2.2.2.2.2.2.2.2.2.2.2.2.2.2.2.2.2.2.2.2.2.2.2.2.2.2.2.2.2.2.1) (x.2.2.2.2.2.2.2.2.2.2.2.2.2.2.2.2.2.2.2.2.2.2.2.2.2.2.2.2.2.2.2.2.2.2.2) := eps_all (ne := neX) (P := fun x => St (x.1) (x.2.1) (x.2.2.1) (x.2.2.2.1) (x.2.2.2.2.1) (x.2.2.2.2.2.1) (x.2.2.2.2.2.2.1) (x.2.2.2.2.2.2.2.1) (x.2.2.2.2.2.2.2.2.1) (x.2.2.2.2.2.2.2.2.2.1) (x.2.2.2.2.2.2.2.2.2.2.1) (x.2.2.2.2.2.2.2.2.2.2.2.1) (x.2.2.2.2.2.2.2.2.2.2.2.2.1) (x.2.2.2.2.2.2.2.2.2.2.2.2.2.1) (x.2.2.2.2.2.2.2.2.2.2.2.2.2.2.1) (x.2.2.2.2.2.2.2.2.2.2.2.2.2.2.2.1) (x.2.2.2.2.2.2.2.2.2.2.2.2.2.2.2.2.1) (x.2.2.2.2.2.2.2.2.2.2.2.2.2.2.2.2.2.1) (x.2.2.2.2.2.2.2.2.2.2.2.2.2.2.2.2.2.2.1) (x.2.2.2.2.2.2.2.2.2.2.2.2.2.2.2.2.2.2.2.1) (x.2.2.2.2.2.2.2.2.2.2.2.2.2.2.2.2.2.2.2.2.1) (x.2.2.2.2.2.2.2.2.2.2.2.2.2.2.2.2.2.2.2.2.2.1) (x.2.2.2.2.2.2.2.2.2.2.2.2.2.2.2.2.2.2.2.2.2.2.1) (x.2.2.2.2.2.2.2.2.2.2.2.2.2.2.2.2.2.2.2.2.2.2.2.1) (x.2.2.2.2.2.2.2.2.2.2.2.2.2.2.2.2.2.2.2.2.2.2.2.2.1) (x.2.2.2.2.2.2.2.2.2.2.2.2.2.2.2.2.2.2.2.2.2.2.2.2.2.1) (x.2.2.2.2.2.2.2.2.2.2.2.2.2.2.2.2.2.2.2.2.2.2.2.2.2.2.1) (x.2.2.2.2.2.2.2.2.2.2.2.2.2.2.2.2.2.2.2.2.2.2.2.2.2.2.2.1) (x.2.2.2.2.2.2.2.2.2.2.2.2.2.2.2.2.2.2.2.2.2.2.2.2.2.2.2.2.1) (x.2.2.2.2.2.2.2.2.2.2.2.2.2.2.2.2.2.2.2.2.2.2.2.2.2.2.2.2.2.1) (x.2.2.2.2.2.2.2.2.2.2.2.2.2.2.2.2.2.2.2.2.2.2.2.2.2.2.2.2.2.2.1) (x.2.2.2.2.2.2.2.2.2.2.2.2.2.2.2.2.2.2.2.2.2.2.2.2.2.2.2.2.2.2.2.1) (x.2.2.2.2.2.2.2.2.2.2.2.2.2.2.2.2.2.2.2.2.2.2.2.2.2.2.2.2.2.2.2.2.1) (x.2.2.2.2.2.2.2.2.2.2.2.2.2.2.2.2.2.2.2.2.2.2.2.2.2.2.2.2.2.2.2.2.2.1) (x.2.2.2.2.2.2.2.2.2.2.2.2.2.2.2.2.2.2.2.2.2.2.2.2.2.2.2.2.2.2.2.2.2.2.1) (x.2.2.2.2.2.2.2.2.2.2.2.2.2.2.2.2.2.2.2.2.2.2.2.2.2.2.2.2.2.2.2.2.2.2.2)) (by with_unfolding_all exact core) x
end C_all_spec
theorem all_spec {w : World}
  {p : Program}
  {loose : List PySem.Str}
  {mean : ExcName → Option Value}
  {mg mb : PySem.Str → Option Value}
  {r : RealA}
  {plan : List (List Int)}
  {bl : List Bool}
  {n : Nat}
  (O : RealOk w r plan bl n)
  {f : Nat}
  {dp un : Nat}
  {gd : Option (List Code)}
  {cn : PySem.Str}
  {cs : Scope}
  {a : Addr}
  {ccd : Value}
  {cl : List (PySem.Str × Addr)}
  {outer : List Env}
  {A₀ : Around}
  {base h₀ : Heap}
  {L : Addr}
  {m : PySem.Str → Option Value}
  {s : Shared}
  {Q E : Value → Shared → Prop}
  {z : Addr}
  {nz : Nat}
  {vh ve : List Value}
  {ne : Nat}
  {θ : Nat → Th}
  {S : S}
  {ps : List Int}
  {P : Addr}
  {cP : Nat}
  (B : Below A₀ base outer h₀)
  (F : Fr h₀ L s.heap m)
  (X : (hd.heap_1 w.params).In h₀)
  (T : Top p loose mean mg mb h₀)
  (hk : cs.kind = .function)
  (N : News h₀ L s.heap ((P, listOf (ps.map fun q => Value.ref (r.x q.toNat)).toArray cP) :: r.all w n z #[] nz vh ve ne θ))
  (hvh : BoolsAre vh S.held)
  (hve : IntsAre ve S.log)
  (hS : S.Len n)
  (hR : RelR r n S θ)
  (hz : r.Zoff n z)
  (hC : Cz n S θ)
  (hin : ∀ q ∈ ps, 0 ≤ q ∧ q < (n : Int))
  (hP : ∀ q ∈ r.all w n z #[] nz vh ve ne θ, @Ne Nat q.1 P)
  (hlp : ps.length ≤ 10)
  (hf : hc S.held ≤ f)
  (hd : dp + (8 * f + 4) < recursionLimit)
  (hu : un + 8 * (8 * f + 4) < cLine)
  (ret : ∀ h' tk' z' nz' vh' ve' ne' θ', Fr h₀ L h' m → News h₀ L h' ((P, listOf (ps.map fun q => Value.ref (r.x q.toNat)).toArray cP) :: r.all w n z' #[] nz' vh' ve' ne' θ') → BoolsAre vh' (allA plan bl f n S ps).held → IntsAre ve' (allA plan bl f n S ps).log →
    RelR r n (allA plan bl f n S ps) θ' → r.Zoff n z' → Cz n (allA plan bl f n S ps) θ' → (z' = z ∨ s.heap.get? z' = none) → Keep (P :: r.adrs n z) s.heap h' → Q .none { s with heap := h', toks := tk' }) : wpAny (model Pr w) (ktrTop dp un gd cn cs L a ccd cl outer) (call (.ref 377) [.ref r.xc, .ref P]) Q E s :=
  C_all_spec.all (w, p, loose, mean, mg, mb, r, plan, bl, n, dp, un, gd, cn, cs, a, ccd, cl, outer, A₀, base, h₀, L, m, s, Q, E, z, nz, vh, ve, ne, θ, ps, P, cP) f S O B F X T hk N hvh hve hS hR hz hC hin hP hlp hf hd hu ret
end Mine
end
section
open PySem PySem.W PyProof.Rows PySem.Calls LSm
namespace Mine
/-- law's own body and scope, read off the given program -/
noncomputable def lawBody : List Stmt := match Pr.main.body.getLast? with
  | some (.FunctionDef _ _ body _ _ _ _ _ _ _) => body
  | _ => []
noncomputable def lawScope : Scope := match Pr.main.body.getLast? with
  | some (.FunctionDef _ _ _ _ _ _ scope _ _ _) => scope
  | _ => default
noncomputable def lawRest (k : Nat) : List Stmt := lawBody.drop k
/-- law's cells -/
noncomputable abbrev lawCl (r : RealA) (cj cm : Addr) : List (PySem.Str × Addr) :=
  [(PySem.Str.ofString "things", r.ct), (PySem.Str.ofString "own", r.co), (PySem.Str.ofString "let", r.cL), (PySem.Str.ofString "held", r.ch), (PySem.Str.ofString "heard", r.ce), (PySem.Str.ofString "heap", r.cp), (PySem.Str.ofString "counter", r.cc), (PySem.Str.ofString "many", cm), (PySem.Str.ofString "jug", cj)]
example (L : Addr) : cellsFrom (L + 1) lawScope.names [] = [(PySem.Str.ofString "things", L + 9), (PySem.Str.ofString "own", L + 8), (PySem.Str.ofString "let", L + 7), (PySem.Str.ofString "held", L + 6), (PySem.Str.ofString "heard", L + 5), (PySem.Str.ofString "heap", L + 4), (PySem.Str.ofString "counter", L + 3), (PySem.Str.ofString "many", L + 2), (PySem.Str.ofString "jug", L + 1)] := rfl
example : ∃ a b c d e f g h i j k l m n o p q, lawBody = [a, b, c, d, e, f, g, h, i, j, k, l, m, n, o, p, q] := ⟨_, _, _, _, _, _, _, _, _, _, _, _, _, _, _, _, _, rfl⟩
end Mine
end
theorem Mine.rs_o5 {w : PySem.World} {p : PySem.Program} {A : PySem.Around} {q : PySem.Pos} {e : PySem.Env} {Q : PySem.Flow → PySem.Shared → Prop} {E : PySem.Value → PySem.Shared → Prop} {s : PySem.Shared} (h : PySem.wpAny (PySem.model p w) A (PySem.exec (PySem.Stmt.Pass q) e) Q E s) : PySem.wpAny (PySem.model p w) A (PySem.exec (PySem.Stmt.Pass q) e) Q E s := by
  w_top off
  first | (walk1; exact h) | exact h
section
open PySem PySem.W PyProof.Rows PySem.Calls LSm Mine
local macro_rules | `(tactic| walk_at "subscriptTail") => `(tactic| (k_here; (with_reducible show wpAny _ _ (subscriptTail _ _ (Value.ref _) (Value.int _ _)) _ _ _); k_dflt (refine' Mine.ref_sub ?N ?m ?x ?a ?b ?_ ?h; (case N => k_asm); (case m => k_mem); (case x => with_reducible assumption); (case a => omega); (case b => omega); (case h => with_unfolding_all rfl))))
theorem Mine.rs_LawLast : True := by
  w_top off
  trivial
section
open PySem PySem.W PyProof.Rows PySem.Calls LSm
namespace Mine
namespace C_law_last
noncomputable abbrev XX : Type := (World) × (Program) × (List PySem.Str) × (ExcName → Option Value) × (PySem.Str → Option Value) × (PySem.Str → Option Value) × (RealA) × (List (List Int)) × (List Bool) × (Nat) × (Nat) × (Nat) × (Option (List Code)) × (Addr) × (Value) × (List Env) × (Heap) × (Addr) × (PySem.Str → Option Value) × (Shared) × (Flow → Shared → Prop) × (Value → Shared → Prop) × (Array Value) × (Addr) × (Nat) × (List Value) × (List Value) × (List Value) × (List Value) × (Nat) × (Nat) × (Nat) × (Nat → Th) × (Addr) × (Addr) × (Obj) × (Tok)
noncomputable def StX (w : World) (p : Program) (loose : List PySem.Str) (mean : ExcName → Option Value) (mg : PySem.Str → Option Value) (mb : PySem.Str → Option Value) (r : RealA) (plan : List (List Int)) (bl : List Bool) (n : Nat) (dp : Nat) (un : Nat) (gd : Option (List Code)) (a : Addr) (ccd : Value) (outer : List Env) (h₀ : Heap) (L : Addr) (m : PySem.Str → Option Value) (s : Shared) (Q : Flow → Shared → Prop) (E : Value → Shared → Prop) (tps : Array Value) (z : Addr) (nz : Nat) (vh : List Value) (ve : List Value) (vd : List Value) (vf : List Value) (ne : Nat) (c2 : Nat) (c3 : Nat) (θ : Nat → Th) (cj : Addr) (cm : Addr) (om : Obj) (tm : Tok) : Prop :=
  ∀ (news : List (Addr × Obj)) (S : S) (O : RealOk w r plan bl n) (F : Fr h₀ L s.heap m) (X : (hd.heap_1 w.params).In h₀) (T : Top p loose mean mg mb h₀) (N : News h₀ L s.heap news) (hall : ∀ q ∈ r.all w n z #[] nz vh ve ne θ, q ∈ news) (hmd : (r.o.dl, listOf vd.toArray c2) ∈ news) (hmf : (r.o.fl, listOf vf.toArray c3) ∈ news) (hgt : (427, tabObj tps) ∈ news) (hmm : (cm, om) ∈ news) (hom : om.data = .cell (some (.int (n : Int) tm))) (hvh : BoolsAre vh S.held) (hvd : BoolsAre vd S.done) (hvf : BoolsAre vf S.freed) (hS : S.Len n) (hR : RelR r n S θ) (hC : Cz n S θ) (ret : ∀ h' tk' m', Fr h₀ L h' m' → GrownAt 427 h' → Q (.ret (.bool true)) { s with heap := h', toks := tk' }), wpAny (model Pr w) (ktrTop dp un gd (PySem.Str.ofString "law") lawScope L a ccd (lawCl r cj cm) outer) (execs (lawRest 15) (envX (PySem.Str.ofString "law") lawScope L a ccd (lawCl r cj cm))) Q E s
theorem neX : Nonempty XX := by
  refine ⟨?_⟩
  repeat' (first | exact default | exact aWorld 1 | constructor | intro _)
noncomputable def cX : XX := @Classical.epsilon XX neX fun x => ¬ StX (x.1) (x.2.1) (x.2.2.1) (x.2.2.2.1) (x.2.2.2.2.1) (x.2.2.2.2.2.1) (x.2.2.2.2.2.2.1) (x.2.2.2.2.2.2.2.1) (x.2.2.2.2.2.2.2.2.1) (x.2.2.2.2.2.2.2.2.2.1) (x.2.2.2.2.2.2.2.2.2.2.1) (x.2.2.2.2.2.2.2.2.2.2.2.1) (x.2.2.2.2.2.2.2.2.2.2.2.2.1) (x.2.2.2.2.2.2.2.2.2.2.2.2.2.1) (x.2.2.2.2.2.2.2.2.2.2.2.2.2.2.1) (x.2.2.2.2.2.2.2.2.2.2.2.2.2.2.2.1) (x.2.2.2.2.2.2.2.2.2.2.2.2.2.2.2.2.1) (x.2.2.2.2.2.2.2.2.2.2.2.2.2.2.2.2.2.1) (x.2.2.2.2.2.2.2.2.2.2.2.2.2.2.2.2.2.2.1) (x.2.2.2.2.2.2.2.2.2.2.2.2.2.2.2.2.2.2.2.1) (x.2.2.2.2.2.2.2.2.2.2.2.2.2.2.2.2.2.2.2.2.1) (x.2.2.2.2.2.2.2.2.2.2.2.2.2.2.2.2.2.2.2.2.2.1) (x.2.2.2.2.2.2.2.2.2.2.2.2.2.2.2.2.2.2.2.2.2.2.1) (x.2.2.2.2.2.2.2.2.2.2.2.2.2.2.2.2.2.2.2.2.2.2.2.1) (x.2.2.2.2.2.2.2.2.2.2.2.2.2.2.2.2.2.2.2.2.2.2.2.2.1) (x.2.2.2.2.2.2.2.2.2.2.2.2.2.2.2.2.2.2.2.2.2.2.2.2.2.1) (x.2.2.2.2.2.2.2.2.2.2.2.2.2.2.2.2.2.2.2.2.2.2.2.2.2.2.1) (x.2.2.2.2.2.2.2.2.2.2.2.2.2.2.2.2.2.2.2.2.2.2.2.2.2.2.2.1) (x.2.2.2.2.2.2.2.2.2.2.2.2.2.2.2.2.2.2.2.2.2.2.2.2.2.2.2.2.1) (x.2.2.2.2.2.2.2.2.2.2.2.2.2.2.2.2.2.2.2.2.2.2.2.2.2.2.2.2.2.1) (x.2.2.2.2.2.2.2.2.2.2.2.2.2.2.2.2.2.2.2.2.2.2.2.2.2.2.2.2.2.2.1) (x.2.2.2.2.2.2.2.2.2.2.2.2.2.2.2.2.2.2.2.2.2.2.2.2.2.2.2.2.2.2.2.1) (x.2.2.2.2.2.2.2.2.2.2.2.2.2.2.2.2.2.2.2.2.2.2.2.2.2.2.2.2.2.2.2.2.1) (x.2.2.2.2.2.2.2.2.2.2.2.2.2.2.2.2.2.2.2.2.2.2.2.2.2.2.2.2.2.2.2.2.2.1) (x.2.2.2.2.2.2.2.2.2.2.2.2.2.2.2.2.2.2.2.2.2.2.2.2.2.2.2.2.2.2.2.2.2.2.1) (x.2.2.2.2.2.2.2.2.2.2.2.2.2.2.2.2.2.2.2.2.2.2.2.2.2.2.2.2.2.2.2.2.2.2.2.1) (x.2.2.2.2.2.2.2.2.2.2.2.2.2.2.2.2.2.2.2.2.2.2.2.2.2.2.2.2.2.2.2.2.2.2.2.2)
@[irreducible] noncomputable def w := cX.1
@[irreducible] noncomputable def p := cX.2.1
@[irreducible] noncomputable def loose := cX.2.2.1
@[irreducible] noncomputable def mean := cX.2.2.2.1
@[irreducible] noncomputable def mg := cX.2.2.2.2.1
@[irreducible] noncomputable def mb := cX.2.2.2.2.2.1
@[irreducible] noncomputable def r := cX.2.2.2.2.2.2.1
@[irreducible] noncomputable def plan := cX.2.2.2.2.2.2.2.1
@[irreducible] noncomputable def bl := cX.2.2.2.2.2.2.2.2.1
@[irreducible] noncomputable def n := cX.2.2.2.2.2.2.2.2.2.1
@[irreducible] noncomputable def dp := cX.2.2.2.2.2.2.2.2.2.2.1
@[irreducible] noncomputable def un := cX.2.2.2.2.2.2.2.2.2.2.2.1
@[irreducible] noncomputable def gd := cX.2.2.2.2.2.2.2.2.2.2.2.2.1
@[irreducible] noncomputable def a := cX.2.2.2.2.2.2.2.2.2.2.2.2.2.1
@[irreducible] noncomputable def ccd := cX.2.2.2.2.2.2.2.2.2.2.2.2.2.2.1
@[irreducible] noncomputable def outer := cX.2.2.2.2.2.2.2.2.2.2.2.2.2.2.2.1
@[irreducible] noncomputable def h₀ := cX.2.2.2.2.2.2.2.2.2.2.2.2.2.2.2.2.1
@[irreducible] noncomputable def L := cX.2.2.2.2.2.2.2.2.2.2.2.2.2.2.2.2.2.1
@[irreducible] noncomputable def m := cX.2.2.2.2.2.2.2.2.2.2.2.2.2.2.2.2.2.2.1
@[irreducible] noncomputable def s := cX.2.2.2.2.2.2.2.2.2.2.2.2.2.2.2.2.2.2.2.1
@[irreducible] noncomputable def Q := cX.2.2.2.2.2.2.2.2.2.2.2.2.2.2.2.2.2.2.2.2.1
@[irreducible] noncomputable def E := cX.2.2.2.2.2.2.2.2.2.2.2.2.2.2.2.2.2.2.2.2.2.1
@[irreducible] noncomputable def tps := cX.2.2.2.2.2.2.2.2.2.2.2.2.2.2.2.2.2.2.2.2.2.2.1
@[irreducible] noncomputable def z := cX.2.2.2.2.2.2.2.2.2.2.2.2.2.2.2.2.2.2.2.2.2.2.2.1
@[irreducible] noncomputable def nz := cX.2.2.2.2.2.2.2.2.2.2.2.2.2.2.2.2.2.2.2.2.2.2.2.2.1
@[irreducible] noncomputable def vh := cX.2.2.2.2.2.2.2.2.2.2.2.2.2.2.2.2.2.2.2.2.2.2.2.2.2.1
@[irreducible] noncomputable def ve := cX.2.2.2.2.2.2.2.2.2.2.2.2.2.2.2.2.2.2.2.2.2.2.2.2.2.2.1
@[irreducible] noncomputable def vd := cX.2.2.2.2.2.2.2.2.2.2.2.2.2.2.2.2.2.2.2.2.2.2.2.2.2.2.2.1
@[irreducible] noncomputable def vf := cX.2.2.2.2.2.2.2.2.2.2.2.2.2.2.2.2.2.2.2.2.2.2.2.2.2.2.2.2.1
@[irreducible] noncomputable def ne := cX.2.2.2.2.2.2.2.2.2.2.2.2.2.2.2.2.2.2.2.2.2.2.2.2.2.2.2.2.2.1
@[irreducible] noncomputable def c2 := cX.2.2.2.2.2.2.2.2.2.2.2.2.2.2.2.2.2.2.2.2.2.2.2.2.2.2.2.2.2.2.1
@[irreducible] noncomputable def c3 := cX.2.2.2.2.2.2.2.2.2.2.2.2.2.2.2.2.2.2.2.2.2.2.2.2.2.2.2.2.2.2.2.1
@[irreducible] noncomputable def θ := cX.2.2.2.2.2.2.2.2.2.2.2.2.2.2.2.2.2.2.2.2.2.2.2.2.2.2.2.2.2.2.2.2.1
@[irreducible] noncomputable def cj := cX.2.2.2.2.2.2.2.2.2.2.2.2.2.2.2.2.2.2.2.2.2.2.2.2.2.2.2.2.2.2.2.2.2.1
@[irreducible] noncomputable def cm := cX.2.2.2.2.2.2.2.2.2.2.2.2.2.2.2.2.2.2.2.2.2.2.2.2.2.2.2.2.2.2.2.2.2.2.1
@[irreducible] noncomputable def om := cX.2.2.2.2.2.2.2.2.2.2.2.2.2.2.2.2.2.2.2.2.2.2.2.2.2.2.2.2.2.2.2.2.2.2.2.1
@[irreducible] noncomputable def tm := cX.2.2.2.2.2.2.2.2.2.2.2.2.2.2.2.2.2.2.2.2.2.2.2.2.2.2.2.2.2.2.2.2.2.2.2.2
theorem core : StX w p loose mean mg mb r plan bl n dp un gd a ccd outer h₀ L m s Q E tps z nz vh ve vd vf ne c2 c3 θ cj cm om tm := by
  unfold StX
  intro news S O F X T N hall hmd hmf hgt hmm hom hvh hvd hvf hS hR hC ret
  unfold Pr
  refine wpAny_noRaise ?_
  rw [show lawRest 15 = _ :: _ :: [] from rfl, show lawScope = { kind := _, names := _, isGenerator := _, isCoroutine := _, more := _ } from rfl]
  revert X; k_fill; intro X
  have hn5 := O.small
  have ecm := hom
  have hdict := O.dict
  have ech := O.ech
  have ect := O.ect
  have eco := O.eco
  have N1 : News h₀ L s.heap [(cm, om), (r.ch, r.och), (r.ct, r.oct), (r.co, r.oco), (r.hl, listOf vh.toArray r.nh), (r.tl, listOf (r.vt n).toArray r.nt), (r.o.od, r.o.oo), (r.o.dl, listOf vd.toArray c2), (r.o.fl, listOf vf.toArray c3)] := news_sub N (fun q hq => by
    replace hq := mem_ors hq
    rcases hq with rfl | rfl | rfl | rfl | rfl | rfl | rfl | rfl | rfl
    · exact hmm
    · exact hall _ (List.mem_append_left _ (by k_mem))
    · exact hall _ (List.mem_append_left _ (by k_mem))
    · exact hall _ (List.mem_append_left _ (by k_mem))
    · exact hall _ (List.mem_append_left _ (by k_mem))
    · exact hall _ (List.mem_append_left _ (by k_mem))
    · exact hall _ (List.mem_append_left _ (by k_mem))
    · exact hmd
    · exact hmf)
  have Nw := fun _ : Unit => N
  clear N
  repeat' ((fail_if_success (with_reducible show wpAny _ _ (exec (Stmt.For _ _ _ _ _) _) _ _ _)); (first | (k_unfold; (try dsimp only)) | (walk1; (try dsimp only)) | (dsimp only; walk1) | fail "no step"))
  (with_unfolding_all refine' For_invVF F ?kk1 ?kk2 ?_)
  case kk1 => exact rfl
  case kk2 => exact rfl
  repeat' ((fail_if_success (with_reducible show wpAny _ _ (pyIter _) _ _ _)); (first | (k_unfold; (try dsimp only)) | (walk1; (try dsimp only)) | (dsimp only; walk1) | fail "no step"))
  rename IsRange _ _ _ _ _ _ _ _ => hRg
  rename News _ _ _ _ => N2
  rename Fr _ _ _ _ => F2
  rename ∀ b o, Heap.get? _ b = some o → Heap.get? _ b = some o => kp'0
  refine iter_rangeY (PySem.Str.ofString "thing") (n := n) (R := fun i (_ : Unit) nx => nx = news) (fun _ _ => ()) () (by rfl) hRg (rng_small hn5) (rng_size hn5) F2 (fun q hq => ⟨kp'0 _ _ ((Nw ()) q hq).1, ((Nw ()) q hq).2⟩) rfl ?_ ?_
  · rintro i t _ nx I it h tk u hi rfl hoffI F3 N3
    have b0 : (0 : Int) ≤ (i : Int) := by omega
    have b1 : (i : Int) < 100 := by omega
    have hit : (r.vt n)[((i : Int)).toNat]? = some (.ref (r.x i)) := by show (r.vt n)[i]? = _; simp only [List.getElem?_map, List.getElem?_range hi, Option.map_some]
    have hxf : vf[((i : Int)).toNat]? = some (.bool (S.freed.getD i false)) := kbo_at hvf i (by rw [hS.freed]; exact hi)
    have hxd : vd[((i : Int)).toNat]? = some (.bool (S.done.getD i false)) := kbo_at hvd i (by rw [hS.done]; exact hi)
    have hxh : vh[((i : Int)).toNat]? = some (.bool (S.held.getD i false)) := kbo_at hvh i (by rw [hS.held]; exact hi)
    have hfr := hR.freed i hi
    have hds := hR.dest i hi
    have N4 : News h₀ L h ((I, it) :: (cm, om) :: (r.ch, r.och) :: (r.ct, r.oct) :: (r.co, r.oco) :: (r.hl, listOf vh.toArray r.nh) :: (r.tl, listOf (r.vt n).toArray r.nt) :: (r.o.od, r.o.oo) :: (r.o.dl, listOf vd.toArray c2) :: (r.o.fl, listOf vf.toArray c3) :: r.thD w θ i :: (r.x i, instObj 78 (r.d i)) :: nx) := fun q hq => by
      rcases List.mem_cons.mp hq with rfl | hq
      · exact N3 _ (.head _)
      refine N3 q (.tail _ ?_)
      simp only [List.mem_cons] at hq
      rcases hq with rfl | rfl | rfl | rfl | rfl | rfl | rfl | rfl | rfl | rfl | rfl | hq
      · exact hmm
      · exact hall _ (List.mem_append_left _ (by k_mem))
      · exact hall _ (List.mem_append_left _ (by k_mem))
      · exact hall _ (List.mem_append_left _ (by k_mem))
      · exact hall _ (List.mem_append_left _ (by k_mem))
      · exact hall _ (List.mem_append_left _ (by k_mem))
      · exact hall _ (List.mem_append_left _ (by k_mem))
      · exact hmd
      · exact hmf
      · exact hall _ (List.mem_append_right _ (r.ths_d hi))
      · exact hall _ (List.mem_append_right _ (r.ths_ro hi (.head _)))
      · exact hq
    clear N3 N2 F2
    dsimp only [RealA.thD, Th.obj] at N4
    have F3' : Fr h₀ L h _ := F3
    clear F3
    simp only [hfr, hds] at N4
    (try k_fold)
    repeat' ((fail_if_success (with_reducible show wpAny _ _ (eval (Expr.IfExp _ _ _ _) _) _ _ _)); (first | (k_unfold; (try dsimp only)) | (walk1; (try dsimp only)) | (dsimp only; walk1) | fail "no step"))
    all_goals try ((rename (_ != _) = true => zz); exact absurd zz (by first | k_mem | simp))
    rename News _ _ _ _ => N9
    rename Fr _ _ _ _ => F9
    have F9' := fun _ : Unit => fr_swap (by decide) F9
    have N9' : Unit → News h₀ L _ ((I, it) :: nx) := fun _ q hq => N9 q (by
      rcases List.mem_cons.mp hq with rfl | hq
      · exact .head _
      · simp only [List.mem_cons]; simp only [hq, or_true])
    cases eh : S.held.getD i false with
    | true =>
      have hcn := (hR.on i hi eh).1
      rw [eh] at hxh
      repeat' (first | (k_unfold; (try dsimp only)) | (walk1; (try dsimp only)) | (dsimp only; walk1) | fail "no step")
      all_goals try ((rename (θ i).cnt ≠ 1 => zz); exact absurd hcn zz)
      exact ⟨_, _, _, _, nx, rfl, F9' (), N9' (), hoffI, rfl⟩
    | false =>
      have hcn := hC i hi eh
      rw [eh] at hxh
      repeat' (first | (k_unfold; (try dsimp only)) | (walk1; (try dsimp only)) | (dsimp only; walk1) | fail "no step")
      all_goals try ((rename (θ i).cnt ≠ 0 => zz); exact absurd hcn zz)
      exact ⟨_, _, _, _, nx, rfl, F9' (), N9' (), hoffI, rfl⟩
  · rintro v u nx h tk rfl F3 N3
    have gr := GrownAt.of N3 hgt
    have N4 : News h₀ L h [] := fun _ h => nomatch h
    clear N2 F2 N3
    dsimp only
    repeat' (first | (k_unfold; (try dsimp only)) | (walk1; (try dsimp only)) | (dsimp only; walk1) | fail "no step")
    exact ret _ _ _ F3 gr
theorem all (x : XX) : StX (x.1) (x.2.1) (x.2.2.1) (x.2.2.2.1) (x.2.2.2.2.1) (x.2.2.2.2.2.1) (x.2.2.2.2.2.2.1) (x.2.2.2.2.2.2.2.1) (x.2.2.2.2.2.2.2.2.1) (x.2.2.2.2.2.2.2.2.2.1) (x.2.2.2.2.2.2.2.2.2.2.1) (x.2.2.2.2.2.2.2.2.2.2.2.1) (x.2.2.2.2.2.2.2.2.2.2.2.2.1) (x.2.2.2.2.2.2.2.2.2.2.2.2.2.1) (x.2.2.2.2.2.2.2.2.2.2.2.2.2.2.1) (x.2.2.2.2.2.2.2.2.2.2.2.2.2.2.2.1) (x.2.2.2.2.2.2.2.2.2.2.2.2.2.2.2.2.1) (x.2.2.2.2.2.2.2.2.2.2.2.2.2.2.2.2.2.1) (x.2.2.2.2.2.2.2.2.2.2.2.2.2.2.2.2.2.2.1) (x.2.2.2.2.2.2.2.2.2.2.2.2.2.2.2.2.2.2.2.1) (x.2.2.2.2.2.2.2.2.2.2.2.2.2.2.2.2.2.2.2.2.1) (x.2.2.2.2.2.2.2.2.2.2.2.2.2.2.2.2.2.2.2.2.2.1) (x.2.2.2.2.2.2.2.2.2.2.2.2.2.2.2.2.2.2.2.2.2.2.1) (x.2.2.2.2.2.2.2.2.2.2.2.2.2.2.2.2.2.2.2.2.2.2.2.1) (x.2.2.2.2.2.2.2.2.2.2.2.2.2.2.2.2.2.2.2.2.2.2.2.2.1) (x.2.2.2.2.2.2.2.2.2.2.2.2.2.2.2.2.2.2.2.2.2.2.2.2.2.1) (x.2.2.2.2.2.2.2.2.2.2.2.2.2.2.2.2.2.2.2.2.2.2.2.2.2.2.1) (x.2.2.2.2.2.2.2.2.2.2.2.2.2.2.2.2.2.2.2.2.2.2.2.2.2.2.2.1) (x.2.2.2.2.2.2.2.2.2.2.2.2.2.2.2.2.2.2.2.2.2.2.2.2.2.2.2.2.1) (x.2.2.2.2.2.2.2.2.2.2.2.2.2.2.2.2.2.2.2.2.2.2.2.2.2.2.2.2.2.1) (x.2.2.2.2.2.2.2.2.2.2.2.2.2.2.2.2.2.2.2.2.2.2.2.2.2.2.2.2.2.2.1) (x.2.2.2.2.2.2.2.2.2.2.2.2.2.2.2.2.2.2.2.2.2.2.2.2.2.2.2.2.2.2.2.1) (x.2.2.2.2.2.2.2.2.2.2.2.2.2.2.2.2.2.2.2.2.2.2.2.2.2.2.2.2.2.2.2.2.1) (x.2.2.2.2.2.2.2.2.2.2.2.2.2.2.2.2.2.2.2.2.2.2.2.2.2.2.2.2.2.2.2.2.2.1) (x.2.2.2.2.2.2.2.2.2.2.2.2.2.2.2.2.2.2.2.2.2.2.2.2.2.2.2.2.2.2.2.2.2.2.1) (x.2.2.2.2.2.2.2.2.2.2.2.2.2.2.2.2.2.2.2.2.2.2.2.2.2.2.2.2.2.2.2.2.2.2.2.1) (x.2.2.2.2.2.2.2.2.2.2.2.2.2.2.2.2.2.2.2.2.2.2.2.2.2.2.2.2.2.2.2.2.2.2.2.2) := eps_all (ne := neX) (P := fun x => StX (x.1) (x.2.1) (x.2.2.1) (x.2.2.2.1) (x.2.2.2.2.1) (x.2.2.2.2.2.1) (x.2.2.2.2.2.2.1) (x.2.2.2.2.2.2.2.1) (x.2.2.2.2.2.2.2.2.1) (x.2.2.2.2.2.2.2.2.2.1) (x.2.2.2.2.2.2.2.2.2.2.1) (x.2.2.2.2.2.2.2.2.2.2.2.1) (x.2.2.2.2.2.2.2.2.2.2.2.2.1) (x.2.2.2.2.2.2.2.2.2.2.2.2.2.1) (x.2.2.2.2.2.2.2.2.2.2.2.2.2.2.1) (x.2.2.2.2.2.2.2.2.2.2.2.2.2.2.2.1) (x.2.2.2.2.2.2.2.2.2.2.2.2.2.2.2.2.1) (x.2.2.2.2.2.2.2.2.2.2.2.2.2.2.2.2.2.1) (x.2.2.2.2.2.2.2.2.2.2.2.2.2.2.2.2.2.2.1) (x.2.2.2.2.2.2.2.2.2.2.2.2.2.2.2.2.2.2.2.1) (x.2.2.2.2.2.2.2.2.2.2.2.2.2.2.2.2.2.2.2.2.1) (x.2.2.2.2.2.2.2.2.2.2.2.2.2.2.2.2.2.2.2.2.2.1) (x.2.2.2.2.2.2.2.2.2.2.2.2.2.2.2.2.2.2.2.2.2.2.1) (x.2.2.2.2.2.2.2.2.2.2.2.2.2.2.2.2.2.2.2.2.2.2.2.1) (x.2.2.2.2.2.2.2.2.2.2.2.2.2.2.2.2.2.2.2.2.2.2.2.2.1) (x.2.2.2.2.2.2.2.2.2.2.2.2.2.2.2.2.2.2.2.2.2.2.2.2.2.1) (x.2.2.2.2.2.2.2.2.2.2.2.2.2.2.2.2.2.2.2.2.2.2.2.2.2.2.1) (x.2.2.2.2.2.2.2.2.2.2.2.2.2.2.2.2.2.2.2.2.2.2.2.2.2.2.2.1) (x.2.2.2.2.2.2.2.2.2.2.2.2.2.2.2.2.2.2.2.2.2.2.2.2.2.2.2.2.1) (x.2.2.2.2.2.2.2.2.2.2.2.2.2.2.2.2.2.2.2.2.2.2.2.2.2.2.2.2.2.1) (x.2.2.2.2.2.2.2.2.2.2.2.2.2.2.2.2.2.2.2.2.2.2.2.2.2.2.2.2.2.2.1) (x.2.2.2.2.2.2.2.2.2.2.2.2.2.2.2.2.2.2.2.2.2.2.2.2.2.2.2.2.2.2.2.1) (x.2.2.2.2.2.2.2.2.2.2.2.2.2.2.2.2.2.2.2.2.2.2.2.2.2.2.2.2.2.2.2.2.1) (x.2.2.2.2.2.2.2.2.2.2.2.2.2.2.2.2.2.2.2.2.2.2.2.2.2.2.2.2.2.2.2.2.2.1) (x.2.2.2.2.2.2.2.2.2.2.2.2.2.2.2.2.2.2.2.2.2.2.2.2.2.2.2.2.2.2.2.2.2.2.1) (x.2.2.2.2.2.2.2.2.2.2.2.2.2.2.2.2.2.2.2.2.2.2.2.2.2.2.2.2.2.2.2.2.2.2.2.1) (x.2.2.2.2.2.2.2.2.2.2.2.2.2.2.2.2.2.2.2.2.2.2.2.2.2.2.2.2.2.2.2.2.2.2.2.2)) (by with_unfolding_all exact core) x
end C_law_last
theorem law_last {w : World}
  {p : Program}
  {loose : List PySem.Str}
  {mean : ExcName → Option Value}
  {mg mb : PySem.Str → Option Value}
  {r : RealA}
  {plan : List (List Int)}
  {bl : List Bool}
  {n : Nat}
  (O : RealOk w r plan bl n)
  {dp un : Nat}
  {gd : Option (List Code)}
  {a : Addr}
  {ccd : Value}
  {outer : List Env}
  {h₀ : Heap}
  {L : Addr}
  {m : PySem.Str → Option Value}
  {s : Shared}
  {Q : Flow → Shared → Prop}
  {E : Value → Shared → Prop}
  {news : List (Addr × Obj)}
  {tps : Array Value}
  {z : Addr}
  {nz : Nat}
  {vh ve vd vf : List Value}
  {ne c2 c3 : Nat}
  {θ : Nat → Th}
  {S : S}
  {cj cm : Addr}
  {om : Obj}
  {tm : Tok}
  (F : Fr h₀ L s.heap m)
  (X : (hd.heap_1 w.params).In h₀)
  (T : Top p loose mean mg mb h₀)
  (N : News h₀ L s.heap news)
  (hall : ∀ q ∈ r.all w n z #[] nz vh ve ne θ, q ∈ news)
  (hmd : (r.o.dl, listOf vd.toArray c2) ∈ news)
  (hmf : (r.o.fl, listOf vf.toArray c3) ∈ news)
  (hgt : (427, tabObj tps) ∈ news)
  (hmm : (cm, om) ∈ news)
  (hom : om.data = .cell (some (.int (n : Int) tm)))
  (hvh : BoolsAre vh S.held)
  (hvd : BoolsAre vd S.done)
  (hvf : BoolsAre vf S.freed)
  (hS : S.Len n)
  (hR : RelR r n S θ)
  (hC : Cz n S θ)
  (ret : ∀ h' tk' m', Fr h₀ L h' m' → GrownAt 427 h' → Q (.ret (.bool true)) { s with heap := h', toks := tk' }) : wpAny (model Pr w) (ktrTop dp un gd (PySem.Str.ofString "law") lawScope L a ccd (lawCl r cj cm) outer) (execs (lawRest 15) (envX (PySem.Str.ofString "law") lawScope L a ccd (lawCl r cj cm))) Q E s :=
  C_law_last.all (w, p, loose, mean, mg, mb, r, plan, bl, n, dp, un, gd, a, ccd, outer, h₀, L, m, s, Q, E, tps, z, nz, vh, ve, vd, vf, ne, c2, c3, θ, cj, cm, om, tm) news S O F X T N hall hmd hmf hgt hmm hom hvh hvd hvf hS hR hC ret
end Mine
end
theorem Mine.rs_Cmp : True := by
  w_top off
  trivial
section
open PySem PySem.W PyProof.Rows PySem.Calls LSm PyProof.V PySem.Spec PySem.SeqAt
namespace Mine
theorem readsAll_of_bools {h : Heap} : ∀ {vs : List Value} {bs : List Bool}, BoolsAre vs bs → ReadsAll h vs (bs.map PyData.bool) []
  | _, _, .nil => .nil
  | _, _, .cons b r => by
    have := ReadsAll.cons (Reads.bool (h := h) b) (readsAll_of_bools (h := h) r)
    simpa using this
theorem reads_of_bools {h : Heap} {a : Addr} {vs : List Value} {bs : List Bool} (hl : h.IsList a vs.toArray) (hi : BoolsAre vs bs) : Reads h (.ref a) (.list (bs.map PyData.bool)) [a] := by
  obtain ⟨o, ho, hc, n, hd⟩ := hl
  exact Reads.list ho hc hd (by simpa using readsAll_of_bools hi)
theorem canLayAll0_bools : ∀ bs : List Bool, PyData.canLayAll0 (bs.map PyData.bool) = true
  | [] => by simp [PyData.canLayAll0]
  | n :: r => by simp [PyData.canLayAll0, PyData.canLay0, canLayAll0_bools r]
theorem depthAll_bools : ∀ bs : List Bool, PyData.depthAll (bs.map PyData.bool) ≤ 1
  | [] => by simp [PyData.depthAll]
  | n :: r => by
    have := depthAll_bools r
    simp only [List.map_cons, PyData.depthAll, PyData.depth]
    omega
theorem shaped_bools (bs : List Bool) : shaped (.list (bs.map PyData.bool)) = true := by
  have h1 := depthAll_bools bs
  have h2 : PyData.depth (.list (bs.map PyData.bool)) ≤ 64 := by simp only [PyData.depth]; omega
  show (PyData.canLay0 (.list (bs.map PyData.bool)) && decide (PyData.depth (.list (bs.map PyData.bool)) ≤ 64)) = true
  rw [Bool.and_eq_true]
  exact ⟨by simp only [PyData.canLay0]; exact canLayAll0_bools bs, decide_eq_true h2⟩
theorem noMix_bools : ∀ bs ms : List Bool, noMixAll (bs.map PyData.bool) (ms.map PyData.bool) = true
  | [], [] => by simp [noMixAll]
  | [], _ :: _ => by simp [noMixAll]
  | _ :: _, [] => by simp [noMixAll]
  | _ :: r, _ :: q => by simp [noMixAll, noMix, noMix_bools r q]
theorem same_bools : ∀ bs : List Bool, PySem.Spec.sameAll (bs.map PyData.bool) (bs.map PyData.bool) = true
  | [] => by simp [PySem.Spec.sameAll]
  | n :: r => by simp [PySem.Spec.sameAll, PySem.Spec.same, same_bools r]
section
variable {prog : Program} {w : World} {A : Around} {E : Value → Shared → Prop} {s : Shared}
theorem ne_bools {a b : Addr} {vs us : List Value} {bs : List Bool} {Q : Value → Shared → Prop} (hl : s.heap.IsList a vs.toArray) (hi : BoolsAre vs bs) (hl' : s.heap.IsList b us.toArray) (hi' : BoolsAre us bs) (hu : A.units + 64 < cLine)
    (h : Q (.bool false) s) : wpAny (model prog w) A (compareOp .NotEq (.ref a) (.ref b)) Q E s :=
  ne_dataH_same (reads_of_bools hl hi) (reads_of_bools hl' hi') (shaped_bools bs) (shaped_bools bs) hu (by simp only [noMix]; exact noMix_bools bs bs) (by simp only [PySem.Spec.same]; rw [same_bools]; exact h)
theorem ne_ints {a b : Addr} {vs us : List Value} {ns : List Int} {Q : Value → Shared → Prop} (hl : s.heap.IsList a vs.toArray) (hi : IntsAre vs ns) (hl' : s.heap.IsList b us.toArray) (hi' : IntsAre us ns) (hu : A.units + 64 < cLine)
    (h : Q (.bool false) s) : wpAny (model prog w) A (compareOp .NotEq (.ref a) (.ref b)) Q E s := ne_intsK hl hi hl' hi' hu (by rw [decide_eq_true rfl]; exact h)
end
end Mine
end
theorem Mine.rs_LawLed : True := by
  w_top off
  trivial
section
open PySem PySem.W PyProof.Rows PySem.Calls LSm
namespace Mine
noncomputable abbrev RealA.own5 (r : RealA) (vh vd vf vg : List Value) (c6 : Nat) : List (Addr × Obj) := [(r.o.hl, listOf vh.toArray r.o.c1), (r.o.dl, listOf vd.toArray r.o.c2), (r.o.fl, listOf vf.toArray r.o.c3), (r.o.bll, listOf r.o.vb.toArray r.o.c4), (r.o.gl, listOf vg.toArray c6)]
/-- law's ledger: the code's side, the law's own tables, the rest -/
noncomputable abbrev RealA.led (r : RealA) (w : World) (n : Nat) (z : Addr) (nz : Nat) (vh ve : List Value) (ne : Nat) (θ : Nat → Th) (vh2 vd vf vg : List Value) (c6 : Nat) (Rst : List (Addr × Obj)) : List (Addr × Obj) := r.all w n z #[] nz vh ve ne θ ++ (r.own5 vh2 vd vf vg c6 ++ Rst)
/-- the own tables and the rest lie off the code's side -/
noncomputable def RealA.Apart (r : RealA) (n : Nat) (z : Addr) (Rst : List (Addr × Obj)) : Prop := ∀ a ∈ [r.o.hl, r.o.dl, r.o.fl, r.o.bll, r.o.gl] ++ Rst.map (·.1), a ∉ r.adrs n z
theorem RealA.Apart.own {r : RealA} {n : Nat} {z : Addr} {Rst : List (Addr × Obj)} (h : r.Apart n z Rst) {vh vd vf vg : List Value} {c6 : Nat} : ∀ q ∈ r.own5 vh vd vf vg c6 ++ Rst, q.1 ∉ r.adrs n z := fun q hq => by
  refine h q.1 ?_
  rcases List.mem_append.mp hq with hq | hq
  · refine List.mem_append_left _ ?_
    simp only [List.mem_cons, List.not_mem_nil, or_false] at hq ⊢
    rcases hq with rfl | rfl | rfl | rfl | rfl <;> simp
  · exact List.mem_append_right _ (List.mem_map_of_mem hq)
/-- both sides say the plain state S -/
structure Both (r : RealA) (n : Nat) (z : Addr) (vh ve : List Value) (θ : Nat → Th) (vh2 vd vf vg : List Value) (S : S) : Prop where
  h1 : BoolsAre vh S.held
  h2 : IntsAre ve S.log
  h3 : BoolsAre vh2 S.held
  h4 : BoolsAre vd S.done
  h5 : BoolsAre vf S.freed
  h6 : IntsAre vg S.log
  len : S.Len n
  rel : RelR r n S θ
  zoff : r.Zoff n z
  cz : Cz n S θ
theorem led_real {w : World} {r : RealA} {n : Nat} {z z' : Addr} {nz nz' : Nat} {vh ve vh' ve' : List Value} {ne ne' : Nat} {θ θ' : Nat → Th} {vh2 vd vf vg : List Value} {c6 : Nat} {Rst : List (Addr × Obj)} {g h h' : Heap} {L : Addr} {as : List Addr}
    (N : News g L h (r.led w n z nz vh ve ne θ vh2 vd vf vg c6 Rst)) (off : r.Apart n z Rst) (N' : News g L h' (r.all w n z' #[] nz' vh' ve' ne' θ')) (kp : Keep as h h') (has : ∀ q ∈ r.own5 vh2 vd vf vg c6 ++ Rst, q.1 ∉ as) (hz : z' = z ∨ h.get? z' = none) :
    News g L h' (r.led w n z' nz' vh' ve' ne' θ' vh2 vd vf vg c6 Rst) ∧ r.Apart n z' Rst := by
  refine ⟨news_app N' (kp.news (fun p hp => N p (List.mem_append_right _ hp)) has), fun a ha hm => ?_⟩
  rcases RealA.adrs_z (z' := z) hm with e | e
  · rcases hz with hz | hz
    · exact off a ha (by rw [e, hz]; exact List.mem_append_left _ (.head _))
    · have : ∃ o, (a, o) ∈ r.own5 vh2 vd vf vg c6 ++ Rst := by
        rcases List.mem_append.mp ha with ha | ha
        · replace ha := mem_ors ha
          rcases ha with rfl | rfl | rfl | rfl | rfl
          · exact ⟨_, List.mem_append_left _ (.head _)⟩
          · exact ⟨_, List.mem_append_left _ (.tail _ (.head _))⟩
          · exact ⟨_, List.mem_append_left _ (.tail _ (.tail _ (.head _)))⟩
          · exact ⟨_, List.mem_append_left _ (.tail _ (.tail _ (.tail _ (.head _))))⟩
          · exact ⟨_, List.mem_append_left _ (.tail _ (.tail _ (.tail _ (.tail _ (.head _)))))⟩
        · obtain ⟨q, hq, rfl⟩ := List.mem_map.mp ha
          exact ⟨q.2, List.mem_append_right _ hq⟩
      obtain ⟨o, ho⟩ := this
      have := (N _ (List.mem_append_right _ ho)).1
      rw [e, hz] at this; cases this
  · exact off a ha e
theorem led_own {w : World} {r : RealA} {n : Nat} {z : Addr} {nz : Nat} {vh ve : List Value} {ne : Nat} {θ : Nat → Th} {vh2 vd vf vg vh2' vd' vf' vg' : List Value} {c6 c6' : Nat} {Rst : List (Addr × Obj)} {g h h' : Heap} {L : Addr}
    (N : News g L h (r.led w n z nz vh ve ne θ vh2 vd vf vg c6 Rst)) (off : r.Apart n z Rst) (roff : ∀ q ∈ Rst, q.1 ∉ r.o.adr) (N' : News g L h' (r.o.ex vh2' vd' vf' vg' c6')) (kp : Keep r.o.adr h h') :
    News g L h' (r.led w n z nz vh ve ne θ vh2' vd' vf' vg' c6' Rst) := fun q hq => by
  rcases List.mem_append.mp hq with h1 | h1
  · have nq := N q (List.mem_append_left _ h1)
    by_cases hm : q.1 ∈ r.o.adr
    · have hadr : q.1 ∈ r.adrs n z := RealA.mem_adrs h1
      have same : ∀ a o, (a, o) ∈ r.all w n z #[] nz vh ve ne θ → q.1 = a → h'.get? a = some o → h'.get? q.1 = some q.2 := fun a o ha e e2 => by
        have := (N (a, o) (List.mem_append_left _ ha)).1
        rw [← e, nq.1] at this
        rw [e, e2]; exact this.symm
      have mOwn : ∀ a, a ∈ [r.o.hl, r.o.dl, r.o.fl, r.o.bll, r.o.gl] → q.1 ≠ a := fun a ha e => off a (List.mem_append_left _ ha) (e ▸ hadr)
      refine ⟨?_, nq.2⟩
      replace hm := mem_ors hm
      rcases hm with e | e | e | e | e | e | e
      · exact same _ _ (List.mem_append_left _ (by k_mem)) e (N' _ (.head _)).1
      · exact absurd e (mOwn _ (by first | k_mem | simp))
      · exact absurd e (mOwn _ (by first | k_mem | simp))
      · exact absurd e (mOwn _ (by first | k_mem | simp))
      · exact absurd e (mOwn _ (by first | k_mem | simp))
      · exact same _ _ (List.mem_append_left _ (by k_mem)) e (N' (r.o.pl, listOf r.o.vp.toArray r.o.c5) (.tail _ (.tail _ (.tail _ (.tail _ (.tail _ (.head _))))))).1
      · exact absurd e (mOwn _ (by first | k_mem | simp))
    · exact ⟨kp _ _ hm nq.1, nq.2⟩
  · rcases List.mem_append.mp h1 with h1 | h1
    · refine N' q ?_
      simp only [List.mem_cons, List.not_mem_nil, or_false] at h1 ⊢
      rcases h1 with rfl | rfl | rfl | rfl | rfl <;> simp
    · have nq := N q (List.mem_append_right _ (List.mem_append_right _ h1))
      exact ⟨kp _ _ (roff q h1) nq.1, nq.2⟩
theorem plan_at {w : World} {r : RealA} {plan : List (List Int)} {bl : List Bool} {n : Nat} (O : RealOk w r plan bl n) {z : Addr} {nz : Nat} {vh ve : List Value} {ne : Nat} {θ : Nat → Th} {vh2 vd vf vg : List Value} {c6 : Nat} {Rst : List (Addr × Obj)} {g h : Heap} {L : Addr}
    (N : News g L h (r.led w n z nz vh ve ne θ vh2 vd vf vg c6 Rst)) (off : r.Apart n z Rst) : PlanAt h r.o plan n := fun k h0 h1 => by
  have hk : k.toNat < n := by omega
  obtain ⟨e1, e2⟩ := O.items k.toNat hk
  have hm : (r.q k.toNat, listOf (r.pv k.toNat).toArray (r.cq k.toNat)) ∈ r.all w n z #[] nz vh ve ne θ := List.mem_append_right _ (r.ths_ro hk (.tail _ (.tail _ (.tail _ (.head _)))))
  refine ⟨_, _, _, e1, (N _ (List.mem_append_left _ hm)).1, e2, fun hq => ?_⟩
  have ha : r.q k.toNat ∈ r.adrs n z := RealA.mem_adrs hm
  have mOwn : ∀ a, a ∈ [r.o.hl, r.o.dl, r.o.fl, r.o.bll, r.o.gl] → r.q k.toNat ≠ a := fun a ha2 e => off a (List.mem_append_left _ ha2) (e ▸ ha)
  have hr := (O.roadr k.toNat hk).2.2.2
  replace hq := mem_ors hq
  rcases hq with e | e | e | e | e | e | e
  · exact hr (by rw [e]; simp)
  · exact mOwn _ (by first | k_mem | simp) e
  · exact mOwn _ (by first | k_mem | simp) e
  · exact mOwn _ (by first | k_mem | simp) e
  · exact mOwn _ (by first | k_mem | simp) e
  · exact hr (by rw [e]; simp)
  · exact mOwn _ (by first | k_mem | simp) e
theorem own_in {w : World} {r : RealA} {n : Nat} {z : Addr} {nz : Nat} {vh ve : List Value} {ne : Nat} {θ : Nat → Th} {vh2 vd vf vg : List Value} {c6 : Nat} {Rst : List (Addr × Obj)} : ∀ q ∈ r.o.ex vh2 vd vf vg c6, q ∈ r.led w n z nz vh ve ne θ vh2 vd vf vg c6 Rst := fun q hq => by
  replace hq := mem_ors hq
  rcases hq with rfl | rfl | rfl | rfl | rfl | rfl | rfl
  · exact List.mem_append_left _ (List.mem_append_left _ (by k_mem))
  · exact List.mem_append_right _ (List.mem_append_left _ (by k_mem))
  · exact List.mem_append_right _ (List.mem_append_left _ (by k_mem))
  · exact List.mem_append_right _ (List.mem_append_left _ (by k_mem))
  · exact List.mem_append_right _ (List.mem_append_left _ (by k_mem))
  · exact List.mem_append_left _ (List.mem_append_left _ (by k_mem))
  · exact List.mem_append_right _ (List.mem_append_left _ (by k_mem))
theorem off1_mem {D : Addr} : ∀ {l : List (Addr × Obj)}, LCg.Off1 D l → ∀ p ∈ l, @Ne Nat p.1 D
  | [], _, _, h => nomatch h
  | _ :: _, x, p, h => by
    rcases List.mem_cons.mp h with rfl | h
    · exact x.1
    · exact off1_mem x.2 p h
/-- the ledger laid out for the walk: one entry of the rest ahead, the written parts, then all else -/
theorem led_open {w : World} {r : RealA} {n : Nat} {z : Addr} {nz : Nat} {vh ve : List Value} {ne : Nat} {θ : Nat → Th} {vh2 vd vf vg : List Value} {c6 : Nat} {Rst Ex : List (Addr × Obj)} {g h : Heap} {L : Addr} (N : News g L h (r.led w n z nz vh ve ne θ vh2 vd vf vg c6 Rst)) (he : ∀ q ∈ Ex, q ∈ Rst) :
    ∃ R, News g L h (Ex ++ (r.ex w n z #[] nz vh ve ne ++ (r.own5 vh2 vd vf vg c6 ++ R))) ∧ ∀ q ∈ r.led w n z nz vh ve ne θ vh2 vd vf vg c6 Rst, q ∈ Ex ++ (r.ex w n z #[] nz vh ve ne ++ (r.own5 vh2 vd vf vg c6 ++ R)) := by
  refine ⟨r.ths w n θ ++ Rst, fun q hq => ?_, fun q hq => List.mem_append_right _ ?_⟩
  · rcases List.mem_append.mp hq with hq | hq
    · exact N _ (List.mem_append_right _ (List.mem_append_right _ (he q hq)))
    · rcases List.mem_append.mp hq with hq | hq
      · exact N _ (List.mem_append_left _ (List.mem_append_left _ hq))
      · rcases List.mem_append.mp hq with hq | hq
        · exact N _ (List.mem_append_right _ (List.mem_append_left _ hq))
        · rcases List.mem_append.mp hq with hq | hq
          · exact N _ (List.mem_append_left _ (List.mem_append_right _ hq))
          · exact N _ (List.mem_append_right _ (List.mem_append_right _ hq))
  · rcases List.mem_append.mp hq with hq | hq
    · rcases List.mem_append.mp hq with hq | hq
      · exact List.mem_append_left _ hq
      · exact List.mem_append_right _ (List.mem_append_right _ (List.mem_append_left _ hq))
    · rcases List.mem_append.mp hq with hq | hq
      · exact List.mem_append_right _ (List.mem_append_left _ hq)
      · exact List.mem_append_right _ (List.mem_append_right _ (List.mem_append_right _ hq))
theorem apart_cons {r : RealA} {n : Nat} {z : Addr} {Rst e : List (Addr × Obj)} (off : r.Apart n z Rst) (he : ∀ p ∈ e, p.1 ∉ r.adrs n z) : r.Apart n z (e ++ Rst) := fun a ha => by
  rcases List.mem_append.mp ha with ha | ha
  · exact off a (List.mem_append_left _ ha)
  · obtain ⟨q, hq, rfl⟩ := List.mem_map.mp ha
    rcases List.mem_append.mp hq with hq | hq
    · exact he q hq
    · exact off q.1 (List.mem_append_right _ (List.mem_map_of_mem hq))
theorem apart_same {r : RealA} {n : Nat} {z : Addr} {Rst Rst' : List (Addr × Obj)} (off : r.Apart n z Rst) (e : Rst'.map (·.1) = Rst.map (·.1)) : r.Apart n z Rst' := fun a ha => off a (by rw [← e]; exact ha)
theorem fresh_adrs {w : World} {r : RealA} {n : Nat} {z : Addr} {nz : Nat} {vh ve : List Value} {ne : Nat} {θ : Nat → Th} {vh2 vd vf vg : List Value} {c6 : Nat} {Rst : List (Addr × Obj)} {a : Addr} (h : ∀ q ∈ r.led w n z nz vh ve ne θ vh2 vd vf vg c6 Rst, @LT.lt Nat _ q.1 a) : a ∉ r.adrs n z := fun hm => by
  obtain ⟨q, hq, e⟩ := RealA.adrs_mem (w := w) (zs := #[]) (nz := nz) (vh := vh) (ve := ve) (ne := ne) (θ := θ) hm
  have := h q (List.mem_append_left _ hq)
  rw [e] at this; exact Nat.lt_irrefl _ this
theorem fresh_own {w : World} {r : RealA} {n : Nat} {z : Addr} {nz : Nat} {vh ve : List Value} {ne : Nat} {θ : Nat → Th} {vh2 vd vf vg : List Value} {c6 : Nat} {Rst : List (Addr × Obj)} {a : Addr} (h : ∀ q ∈ r.led w n z nz vh ve ne θ vh2 vd vf vg c6 Rst, @LT.lt Nat _ q.1 a) : a ∉ r.o.adr := fun hm => by
  have : ∃ o, (a, o) ∈ r.o.ex vh2 vd vf vg c6 := by
    replace hm := mem_ors hm
    rcases hm with rfl | rfl | rfl | rfl | rfl | rfl | rfl
    · exact ⟨_, .head _⟩
    · exact ⟨_, .tail _ (.head _)⟩
    · exact ⟨_, .tail _ (.tail _ (.head _))⟩
    · exact ⟨_, .tail _ (.tail _ (.tail _ (.head _)))⟩
    · exact ⟨_, .tail _ (.tail _ (.tail _ (.tail _ (.head _))))⟩
    · exact ⟨_, .tail _ (.tail _ (.tail _ (.tail _ (.tail _ (.head _)))))⟩
    · exact ⟨_, .tail _ (.tail _ (.tail _ (.tail _ (.tail _ (.tail _ (.head _))))))⟩
  obtain ⟨o, ho⟩ := this
  exact Nat.lt_irrefl _ (h _ (own_in _ ho))
/-- what lies off I stays off I: the own tables keep their addresses, the code's side is asked anew -/
theorem led_offI {w : World} {r : RealA} {n : Nat} {z z' : Addr} {nz nz' : Nat} {vh ve vh' ve' : List Value} {ne ne' : Nat} {θ θ' : Nat → Th} {vh2 vd vf vg vh2' vd' vf' vg' : List Value} {c6 c6' : Nat} {Rst : List (Addr × Obj)} {I : Addr} (h : ∀ q ∈ r.led w n z nz vh ve ne θ vh2 vd vf vg c6 Rst, q.1 ≠ I) (hI : I ∉ r.adrs n z') :
    ∀ q ∈ r.led w n z' nz' vh' ve' ne' θ' vh2' vd' vf' vg' c6' Rst, q.1 ≠ I := fun q hq => by
  rcases List.mem_append.mp hq with hq | hq
  · exact fun e => hI (e ▸ RealA.mem_adrs hq)
  · rcases List.mem_append.mp hq with hq | hq
    · replace hq := mem_ors hq
      rcases hq with rfl | rfl | rfl | rfl | rfl
      · exact h (r.o.hl, listOf vh2.toArray r.o.c1) (List.mem_append_right _ (by first | k_mem | simp))
      · exact h (r.o.dl, listOf vd.toArray r.o.c2) (List.mem_append_right _ (by first | k_mem | simp))
      · exact h (r.o.fl, listOf vf.toArray r.o.c3) (List.mem_append_right _ (by first | k_mem | simp))
      · exact h (r.o.bll, listOf r.o.vb.toArray r.o.c4) (List.mem_append_right _ (by first | k_mem | simp))
      · exact h (r.o.gl, listOf vg.toArray c6) (List.mem_append_right _ (by first | k_mem | simp))
    · exact h q (List.mem_append_right _ (List.mem_append_right _ hq))
/-- a part of the rest, taken out ahead -/
theorem led_part {w : World} {r : RealA} {n : Nat} {z : Addr} {nz : Nat} {vh ve : List Value} {ne : Nat} {θ : Nat → Th} {vh2 vd vf vg : List Value} {c6 : Nat} {Rst e : List (Addr × Obj)} {q : Addr × Obj} : q ∈ e ++ r.led w n z nz vh ve ne θ vh2 vd vf vg c6 Rst ↔ q ∈ r.led w n z nz vh ve ne θ vh2 vd vf vg c6 (e ++ Rst) := by
  simp only [RealA.led, List.mem_append]
  constructor
  · rintro (h | h | h | h)
    · exact .inr (.inr (.inl h))
    · exact .inl h
    · exact .inr (.inl h)
    · exact .inr (.inr (.inr h))
  · rintro (h | h | h | h)
    · exact .inr (.inl h)
    · exact .inr (.inr (.inl h))
    · exact .inl h
    · exact .inr (.inr (.inr h))
end Mine
end
theorem Mine.rs_o6 {w : PySem.World} {p : PySem.Program} {A : PySem.Around} {q : PySem.Pos} {e : PySem.Env} {Q : PySem.Flow → PySem.Shared → Prop} {E : PySem.Value → PySem.Shared → Prop} {s : PySem.Shared} (h : PySem.wpAny (PySem.model p w) A (PySem.exec (PySem.Stmt.Pass q) e) Q E s) : PySem.wpAny (PySem.model p w) A (PySem.exec (PySem.Stmt.Pass q) e) Q E s := by
  w_top off
  first | (walk1; exact h) | exact h
section
open PySem PySem.W PyProof.Rows PySem.Calls LSm Mine
local macro_rules | `(tactic| walk_at "eval Name") => `(tactic| (k_here; (with_reducible show wpAny _ _ (eval (Expr.Name _ _) (envX _ _ _ _ _ _)) _ _ _); k_dflt (refine' nameX_L ?F ?v ?_ ?a ?b ?c; (case F => k_asm); (case v => with_reducible assumption); (case a => rfl); (case b => rfl); (case c => decide); k_whole)))
theorem Mine.rs_LawTurn : True := by
  w_top off
  trivial
section
open PySem PySem.W PyProof.Rows PySem.Calls LSm
namespace Mine
/-- the body of law's loop over the two rows of places -/
noncomputable def turnBody : List Stmt := match lawBody.getD 14 default with
  | .For _ _ body _ _ => body
  | _ => []
namespace C_law_turn
noncomputable abbrev XX : Type := (World) × (Program) × (List PySem.Str) × (ExcName → Option Value) × (PySem.Str → Option Value) × (PySem.Str → Option Value) × (RealA) × (List (List Int)) × (List Bool) × (Nat) × (Nat) × (Nat) × (Option (List Code)) × (Addr) × (Value) × (List Env) × (Around) × (Heap) × (Heap) × (Addr) × (PySem.Str → Option Value) × (Shared) × (Flow → Shared → Prop) × (Value → Shared → Prop) × (Addr) × (Nat) × (List Value) × (List Value) × (List Value) × (List Value) × (List Value) × (List Value) × (List Value) × (Nat) × (Nat) × (Nat) × (Nat → Th) × (Addr) × (Addr) × (Addr) × (List Int) × (List (Addr × Obj))
noncomputable def StX (w : World) (p : Program) (loose : List PySem.Str) (mean : ExcName → Option Value) (mg : PySem.Str → Option Value) (mb : PySem.Str → Option Value) (r : RealA) (plan : List (List Int)) (bl : List Bool) (n : Nat) (dp : Nat) (un : Nat) (gd : Option (List Code)) (a : Addr) (ccd : Value) (outer : List Env) (A₀ : Around) (base : Heap) (h₀ : Heap) (L : Addr) (m : PySem.Str → Option Value) (s : Shared) (Q : Flow → Shared → Prop) (E : Value → Shared → Prop) (z : Addr) (nz : Nat) (vh : List Value) (ve : List Value) (vh2 : List Value) (vd : List Value) (vf : List Value) (vg : List Value) (pls : List Value) (ne : Nat) (c6 : Nat) (cP : Nat) (θ : Nat → Th) (cj : Addr) (cm : Addr) (P : Addr) (ps : List Int) (Rst : List (Addr × Obj)) : Prop :=
  ∀ (S : S) (O : RealOk w r plan bl n) (OW : OwnOk w r.o plan bl n) (hvp : r.o.vp.length = n) (B : Below A₀ base outer h₀) (F : Fr h₀ L s.heap m) (X : (hd.heap_1 w.params).In h₀) (T : Top p loose mean mg mb h₀) (N : News h₀ L s.heap (r.led w n z nz vh ve ne θ vh2 vd vf vg c6 Rst)) (off : r.Apart n z Rst) (roff : ∀ q ∈ Rst, q.1 ∉ r.o.adr) (St : Both r n z vh ve θ vh2 vd vf vg S) (hmP : (P, listOf pls.toArray cP) ∈ Rst) (hpl : m (PySem.Str.ofString "places") = some (.ref P)) (hps : IntsAre pls ps) (hin : ∀ q ∈ ps, 0 ≤ q ∧ q < (n : Int)) (hlp : ps.length ≤ 10) (hd : dp + 60 < recursionLimit) (hu : un + 600 < cLine) (ret : ∀ h' tk' z' nz' vh' ve' ne' θ' vh2' vd' vf' vg' c6', Fr h₀ L h' m → News h₀ L h' (r.led w n z' nz' vh' ve' ne' θ' vh2' vd' vf' vg' c6' Rst) → r.Apart n z' Rst → Both r n z' vh' ve' θ' vh2' vd' vf' vg' (allA plan bl 5 n S ps) → Q .next { s with heap := h', toks := tk' }), wpAny (model Pr w) (ktrTop dp un gd (PySem.Str.ofString "law") lawScope L a ccd (lawCl r cj cm) outer) (execs turnBody (envX (PySem.Str.ofString "law") lawScope L a ccd (lawCl r cj cm))) Q E s
theorem neX : Nonempty XX := by
  refine ⟨?_⟩
  repeat' (first | exact default | exact aWorld 1 | constructor | intro _)
noncomputable def cX : XX := @Classical.epsilon XX neX fun x => ¬ StX (x.1) (x.2.1) (x.2.2.1) (x.2.2.2.1) (x.2.2.2.2.1) (x.2.2.2.2.2.1) (x.2.2.2.2.2.2.1) (x.2.2.2.2.2.2.2.1) (x.2.2.2.2.2.2.2.2.1) (x.2.2.2.2.2.2.2.2.2.1) (x.2.2.2.2.2.2.2.2.2.2.1) (x.2.2.2.2.2.2.2.2.2.2.2.1) (x.2.2.2.2.2.2.2.2.2.2.2.2.1) (x.2.2.2.2.2.2.2.2.2.2.2.2.2.1) (x.2.2.2.2.2.2.2.2.2.2.2.2.2.2.1) (x.2.2.2.2.2.2.2.2.2.2.2.2.2.2.2.1) (x.2.2.2.2.2.2.2.2.2.2.2.2.2.2.2.2.1) (x.2.2.2.2.2.2.2.2.2.2.2.2.2.2.2.2.2.1) (x.2.2.2.2.2.2.2.2.2.2.2.2.2.2.2.2.2.2.1) (x.2.2.2.2.2.2.2.2.2.2.2.2.2.2.2.2.2.2.2.1) (x.2.2.2.2.2.2.2.2.2.2.2.2.2.2.2.2.2.2.2.2.1) (x.2.2.2.2.2.2.2.2.2.2.2.2.2.2.2.2.2.2.2.2.2.1) (x.2.2.2.2.2.2.2.2.2.2.2.2.2.2.2.2.2.2.2.2.2.2.1) (x.2.2.2.2.2.2.2.2.2.2.2.2.2.2.2.2.2.2.2.2.2.2.2.1) (x.2.2.2.2.2.2.2.2.2.2.2.2.2.2.2.2.2.2.2.2.2.2.2.2.1) (x.2.2.2.2.2.2.2.2.2.2.2.2.2.2.2.2.2.2.2.2.2.2.2.2.2.1) (x.2.2.2.2.2.2.2.2.2.2.2.2.2.2.2.2.2.2.2.2.2.2.2.2.2.2.1) (x.2.2.2.2.2.2.2.2.2.2.2.2.2.2.2.2.2.2.2.2.2.2.2.2.2.2.2.1) (x.2.2.2.2.2.2.2.2.2.2.2.2.2.2.2.2.2.2.2.2.2.2.2.2.2.2.2.2.1) (x.2.2.2.2.2.2.2.2.2.2.2.2.2.2.2.2.2.2.2.2.2.2.2.2.2.2.2.2.2.1) (x.2.2.2.2.2.2.2.2.2.2.2.2.2.2.2.2.2.2.2.2.2.2.2.2.2.2.2.2.2.2.1) (x.2.2.2.2.2.2.2.2.2.2.2.2.2.2.2.2.2.2.2.2.2.2.2.2.2.2.2.2.2.2.2.1) (x.2.2.2.2.2.2.2.2.2.2.2.2.2.2.2.2.2.2.2.2.2.2.2.2.2.2.2.2.2.2.2.2.1) (x.2.2.2.2.2.2.2.2.2.2.2.2.2.2.2.2.2.2.2.2.2.2.2.2.2.2.2.2.2.2.2.2.2.1) (x.2.2.2.2.2.2.2.2.2.2.2.2.2.2.2.2.2.2.2.2.2.2.2.2.2.2.2.2.2.2.2.2.2.2.1) (x.2.2.2.2.2.2.2.2.2.2.2.2.2.2.2.2.2.2.2.2.2.2.2.2.2.2.2.2.2.2.2.2.2.2.2.1) (x.2.2.2.2.2.2.2.2.2.2.2.2.2.2.2.2.2.2.2.2.2.2.2.2.2.2.2.2.2.2.2.2.2.2.2.2.1) (x.2.2.2.2.2.2.2.2.2.2.2.2.2.2.2.2.2.2.2.2.2.2.2.2.2.2.2.2.2.2.2.2.2.2.2.2.2.1) (x.2.2.2.2.2.2.2.2.2.2.2.2.2.2.2.2.2.2.2.2.2.2.2.2.2.2.2.2.2.2.2.2.2.2.2.2.2.2.1) (x.2.2.2.2.2.2.2.2.2.2.2.2.2.2.2.2.2.2.2.2.2.2.2.2.2.2.2.2.2.2.2.2.2.2.2.2.2.2.2.1) (x.2.2.2.2.2.2.2.2.2.2.2.2.2.2.2.2.2.2.2.2.2.2.2.2.2.2.2.2.2.2.2.2.2.2.2.2.2.2.2.2.1) (x.2.2.2.2.2.2.2.2.2.2.2.2.2.2.2.2.2.2.2.2.2.2.2.2.2.2.2.2.2.2.2.2.2.2.2.2.2.2.2.2.2)
@[irreducible] noncomputable def w := cX.1
@[irreducible] noncomputable def p := cX.2.1
@[irreducible] noncomputable def loose := cX.2.2.1
@[irreducible] noncomputable def mean := cX.2.2.2.1
@[irreducible] noncomputable def mg := cX.2.2.2.2.1
@[irreducible] noncomputable def mb := cX.2.2.2.2.2.1
@[irreducible] noncomputable def r := cX.2.2.2.2.2.2.1
@[irreducible] noncomputable def plan := cX.2.2.2.2.2.2.2.1
@[irreducible] noncomputable def bl := cX.2.2.2.2.2.2.2.2.1
@[irreducible] noncomputable def n := cX.2.2.2.2.2.2.2.2.2.1
@[irreducible] noncomputable def dp := cX.2.2.2.2.2.2.2.2.2.2.1
@[irreducible] noncomputable def un := cX.2.2.2.2.2.2.2.2.2.2.2.1
@[irreducible] noncomputable def gd := cX.2.2.2.2.2.2.2.2.2.2.2.2.1
@[irreducible] noncomputable def a := cX.2.2.2.2.2.2.2.2.2.2.2.2.2.1
@[irreducible] noncomputable def ccd := cX.2.2.2.2.2.2.2.2.2.2.2.2.2.2.1
@[irreducible] noncomputable def outer := cX.2.2.2.2.2.2.2.2.2.2.2.2.2.2.2.1
@[irreducible] noncomputable def A₀ := cX.2.2.2.2.2.2.2.2.2.2.2.2.2.2.2.2.1
@[irreducible] noncomputable def base := cX.2.2.2.2.2.2.2.2.2.2.2.2.2.2.2.2.2.1
@[irreducible] noncomputable def h₀ := cX.2.2.2.2.2.2.2.2.2.2.2.2.2.2.2.2.2.2.1
@[irreducible] noncomputable def L := cX.2.2.2.2.2.2.2.2.2.2.2.2.2.2.2.2.2.2.2.1
@[irreducible] noncomputable def m := cX.2.2.2.2.2.2.2.2.2.2.2.2.2.2.2.2.2.2.2.2.1
@[irreducible] noncomputable def s := cX.2.2.2.2.2.2.2.2.2.2.2.2.2.2.2.2.2.2.2.2.2.1
@[irreducible] noncomputable def Q := cX.2.2.2.2.2.2.2.2.2.2.2.2.2.2.2.2.2.2.2.2.2.2.1
@[irreducible] noncomputable def E := cX.2.2.2.2.2.2.2.2.2.2.2.2.2.2.2.2.2.2.2.2.2.2.2.1
@[irreducible] noncomputable def z := cX.2.2.2.2.2.2.2.2.2.2.2.2.2.2.2.2.2.2.2.2.2.2.2.2.1
@[irreducible] noncomputable def nz := cX.2.2.2.2.2.2.2.2.2.2.2.2.2.2.2.2.2.2.2.2.2.2.2.2.2.1
@[irreducible] noncomputable def vh := cX.2.2.2.2.2.2.2.2.2.2.2.2.2.2.2.2.2.2.2.2.2.2.2.2.2.2.1
@[irreducible] noncomputable def ve := cX.2.2.2.2.2.2.2.2.2.2.2.2.2.2.2.2.2.2.2.2.2.2.2.2.2.2.2.1
@[irreducible] noncomputable def vh2 := cX.2.2.2.2.2.2.2.2.2.2.2.2.2.2.2.2.2.2.2.2.2.2.2.2.2.2.2.2.1
@[irreducible] noncomputable def vd := cX.2.2.2.2.2.2.2.2.2.2.2.2.2.2.2.2.2.2.2.2.2.2.2.2.2.2.2.2.2.1
@[irreducible] noncomputable def vf := cX.2.2.2.2.2.2.2.2.2.2.2.2.2.2.2.2.2.2.2.2.2.2.2.2.2.2.2.2.2.2.1
@[irreducible] noncomputable def vg := cX.2.2.2.2.2.2.2.2.2.2.2.2.2.2.2.2.2.2.2.2.2.2.2.2.2.2.2.2.2.2.2.1
@[irreducible] noncomputable def pls := cX.2.2.2.2.2.2.2.2.2.2.2.2.2.2.2.2.2.2.2.2.2.2.2.2.2.2.2.2.2.2.2.2.1
@[irreducible] noncomputable def ne := cX.2.2.2.2.2.2.2.2.2.2.2.2.2.2.2.2.2.2.2.2.2.2.2.2.2.2.2.2.2.2.2.2.2.1
@[irreducible] noncomputable def c6 := cX.2.2.2.2.2.2.2.2.2.2.2.2.2.2.2.2.2.2.2.2.2.2.2.2.2.2.2.2.2.2.2.2.2.2.1
@[irreducible] noncomputable def cP := cX.2.2.2.2.2.2.2.2.2.2.2.2.2.2.2.2.2.2.2.2.2.2.2.2.2.2.2.2.2.2.2.2.2.2.2.1
@[irreducible] noncomputable def θ := cX.2.2.2.2.2.2.2.2.2.2.2.2.2.2.2.2.2.2.2.2.2.2.2.2.2.2.2.2.2.2.2.2.2.2.2.2.1
@[irreducible] noncomputable def cj := cX.2.2.2.2.2.2.2.2.2.2.2.2.2.2.2.2.2.2.2.2.2.2.2.2.2.2.2.2.2.2.2.2.2.2.2.2.2.1
@[irreducible] noncomputable def cm := cX.2.2.2.2.2.2.2.2.2.2.2.2.2.2.2.2.2.2.2.2.2.2.2.2.2.2.2.2.2.2.2.2.2.2.2.2.2.2.1
@[irreducible] noncomputable def P := cX.2.2.2.2.2.2.2.2.2.2.2.2.2.2.2.2.2.2.2.2.2.2.2.2.2.2.2.2.2.2.2.2.2.2.2.2.2.2.2.1
@[irreducible] noncomputable def ps := cX.2.2.2.2.2.2.2.2.2.2.2.2.2.2.2.2.2.2.2.2.2.2.2.2.2.2.2.2.2.2.2.2.2.2.2.2.2.2.2.2.1
@[irreducible] noncomputable def Rst := cX.2.2.2.2.2.2.2.2.2.2.2.2.2.2.2.2.2.2.2.2.2.2.2.2.2.2.2.2.2.2.2.2.2.2.2.2.2.2.2.2.2
theorem core : StX w p loose mean mg mb r plan bl n dp un gd a ccd outer A₀ base h₀ L m s Q E z nz vh ve vh2 vd vf vg pls ne c6 cP θ cj cm P ps Rst := by
  unfold StX
  intro S O OW hvp B F X T N off roff St hmP hpl hps hin hlp hd hu ret
  unfold Pr
  refine wpAny_noRaise ?_
  rw [show turnBody = _ :: _ :: _ :: [] from rfl, show lawScope = { kind := _, names := _, isGenerator := _, isCoroutine := _, more := _ } from rfl]
  revert X; k_fill; intro X
  have hn5 := O.small
  have ecc := O.ecc
  have ecL := O.ecL
  have ece := O.ece
  have hdict := O.dict
  have ech := O.ech
  have ect := O.ect
  have eco := O.eco
  obtain ⟨R, N1, mled⟩ := led_open (Ex := [(P, listOf pls.toArray cP)]) N (fun q hq => by rw [List.mem_singleton.mp hq]; exact hmP)
  clear N
  dsimp only [RealA.ex, RealA.own5] at N1
  simp only [List.cons_append, List.nil_append] at N1
  repeat' ((fail_if_success (with_reducible show LCg.CompSrc _ _ _ _ _ _ _ _ _ _ _ _ _ _)); (first | (k_unfold; (try dsimp only)) | walk1 | (dsimp only; walk1) | fail "no step"))
  k_dflt (refine' LCg.CompSrc.ledger (its := pls.toArray) ?hh ?F ?N ?mm ?zz ?_)
  case hh => rfl
  case F => k_asm
  case N => k_asm
  case mm => k_mem
  case zz => rw [List.size_toArray, hps.length, PySem.sizeLine_eq]; omega
  intro gh
  refine comp_const (G := fun i y => ∃ q, ps[i]? = some q ∧ y = Value.ref (r.x q.toNat)) ?_ ?_
  · intro i v I oI C oC D m₂ ys h tk E' hi hv hC hx F2 N2' off ne2
    rw [List.size_toArray, hps.length] at hi
    obtain ⟨q, hq⟩ : ∃ q, ps[i]? = some q := ⟨_, List.getElem?_eq_getElem hi⟩
    obtain ⟨t, hxv⟩ := hps.get i q hq
    obtain rfl : v = .int q t := by
      have : pls[i]? = some v := by simpa using hv
      rw [hxv] at this; exact (Option.some.inj this).symm
    obtain ⟨b0, b1⟩ := hin q (List.mem_of_getElem? hq)
    have hp : q.toNat < n := by omega
    have hit : (r.vt n)[q.toNat]? = some (.ref (r.x q.toNat)) := by simp only [List.getElem?_map, List.getElem?_range hp, Option.map_some]
    (try k_fold)
    repeat' ((fail_if_success (with_reducible show LCg.CompEnd _ _ _ _ _ _ _ _ _ _ _ _ _ _)); (first | (k_unfold; (try dsimp only)) | walk1 | (dsimp only; walk1) | fail "no step"))
    exact LCg.CompEnd.intro F2 N2' _ (fun p hp => hp) off (Or.inr ⟨_, by k_mem, rfl, _, rfl⟩) ⟨rfl, q, hq, rfl⟩
  · intro ys hyl hG
    rw [List.size_toArray, hps.length] at hyl
    have hys : ys = ps.map fun q => Value.ref (r.x q.toNat) := by
      refine List.ext_getElem? fun i => ?_
      rw [List.getElem?_map]
      cases hi : ys[i]? with
      | none =>
        have := List.getElem?_eq_none_iff.mp hi
        rw [List.getElem?_eq_none_iff.mpr (by omega)]; rfl
      | some y =>
        obtain ⟨q, hq, rfl⟩ := hG i y hi
        rw [hq]; rfl
    subst hys
    unfold LCg.FinE
    intro D' hD tkD F2 N2' o1
    have oD : ∀ q ∈ r.led w n z nz vh ve ne θ vh2 vd vf vg c6 Rst, @Ne Nat q.1 D' := fun q hq => off1_mem o1 q (mled q hq)
    have NL : Unit → News h₀ L hD (r.led w n z nz vh ve ne θ vh2 vd vf vg c6 Rst) := fun _ q hq => N2' q (.tail _ (mled q hq))
    simp only [LCg.Off1, and_true] at o1
    dsimp only
    (try k_fold)
    repeat' ((fail_if_success (with_reducible show wpAny _ _ (call (Value.ref 377) _) _ _ _)); (first | (k_unfold; (try dsimp only)) | walk1 | (dsimp only; walk1) | fail "no step"))
    have NL := NL ()
    have Nall : News h₀ L hD ((D', listOf (ps.map fun q => Value.ref (r.x q.toNat)).toArray _) :: r.all w n z #[] nz vh ve ne θ) := fun q hq => by
      rcases List.mem_cons.mp hq with rfl | hq
      · exact N2' _ (.head _)
      · exact NL q (List.mem_append_left _ hq)
    have hlen5 : hc S.held ≤ 5 := Nat.le_trans (hc_le _) (by rw [St.len.held]; exact hn5)
    clear N2'
    k_dflt (refine' all_spec O (f := 5) B F2 X T ?k5 Nall St.h1 St.h2 St.len St.rel St.zoff St.cz hin (fun q hq => oD q (List.mem_append_left _ hq)) hlp hlen5 ?kd ?ku ?_)
    case k5 => rfl
    case kd => ktr_room
    case ku => ktr_units
    intro h3 tk3 z3 nz3 vh3 ve3 ne3 θ3 F3 N3 d1 d2 d3 d4 d5 d6 kp3
    obtain ⟨N4, off4⟩ := led_real NL off (fun p hp => N3 p (.tail _ hp)) kp3 (fun q hq hm => by
      rcases List.mem_cons.mp hm with e | hm
      · exact oD q (List.mem_append_right _ hq) e
      · exact off.own q hq hm) d6
    clear NL Nall N3 F2 mled oD o1
    have N4w := fun _ : Unit => N4
    have hPA := plan_at O N4 off4
    obtain ⟨R4, N5, mled⟩ := led_open (Ex := [(P, listOf pls.toArray cP)]) N4 (fun q hq => by rw [List.mem_singleton.mp hq]; exact hmP)
    clear N4
    dsimp only [RealA.ex, RealA.own5] at N5
    simp only [List.cons_append, List.nil_append] at N5
    (try dsimp only)
    (try k_fold)
    repeat' ((fail_if_success (with_reducible show wpAny _ _ (call (Value.ref 425) _) _ _ _)); (first | (k_unfold; (try dsimp only)) | walk1 | (dsimp only; walk1) | fail "no step"))
    have hPo : P ∉ r.o.adr := roff _ hmP
    k_dflt (refine' told_spec OW (f := 5) B F3 X T ?k5 (news_sub N5 ?kN) St.h3 St.h4 St.h5 St.h6 St.len hPA hvp hps hin hPo hlp hlen5 ?kd ?ku ?_)
    case k5 => rfl
    case kN => dsimp only [OwnA.ex]; simp only [List.cons_append, List.nil_append]; lcg_sub
    case kd => ktr_room
    case ku => ktr_units
    intro h5 tk5 vh5 vd5 vf5 vg5 c65 F5 N6 e1 e2 e3 e4 kp5
    rw [told_eq_all] at e1 e2 e3 e4
    have N7 := led_own (N4w ()) off4 roff (fun q hq => N6 q (List.mem_append_left _ hq)) kp5
    clear N5 N6 F3 mled
    have N7w := fun _ : Unit => N7
    obtain ⟨R5, N8, mled⟩ := led_open (Ex := []) N7 (fun q hq => nomatch hq)
    clear N7
    have hl1 : Heap.IsList h5 r.el ve3.toArray := ⟨_, (N8 (r.el, listOf ve3.toArray ne3) (by first | k_mem | simp)).1, rfl, _, rfl⟩
    have hl2 : Heap.IsList h5 r.o.gl vg5.toArray := ⟨_, (N8 (r.o.gl, listOf vg5.toArray c65) (by first | k_mem | simp)).1, rfl, _, rfl⟩
    have hl3 : Heap.IsList h5 r.hl vh3.toArray := ⟨_, (N8 (r.hl, listOf vh3.toArray r.nh) (by first | k_mem | simp)).1, rfl, _, rfl⟩
    have hl4 : Heap.IsList h5 r.o.hl vh5.toArray := ⟨_, (N8 (r.o.hl, listOf vh5.toArray r.o.c1) (by first | k_mem | simp)).1, rfl, _, rfl⟩
    dsimp only [RealA.ex, RealA.own5] at N8
    simp only [List.cons_append, List.nil_append] at N8
    (try dsimp only)
    (try k_fold)
    repeat' ((fail_if_success (with_reducible show wpAny _ _ (compareOp _ _ _) _ _ _)); (first | (k_unfold; (try dsimp only)) | walk1 | (dsimp only; walk1) | fail "no step"))
    refine ne_ints hl1 d2 hl2 e4 (by ktr_units) ?_
    (try dsimp only)
    repeat' ((fail_if_success (with_reducible show wpAny _ _ (compareOp _ _ _) _ _ _)); (first | (k_unfold; (try dsimp only)) | walk1 | (dsimp only; walk1) | fail "no step"))
    refine ne_bools hl3 d1 hl4 e1 (by ktr_units) ?_
    (try dsimp only)
    repeat' (first | (k_unfold; (try dsimp only)) | walk1 | (dsimp only; walk1) | fail "no step")
    exact ret _ _ _ _ _ _ _ _ _ _ _ _ _ F5 (N7w ()) off4 ⟨d1, d2, e1, e2, e3, e4, allA_len O.inplan St.len, d3, d4, d5⟩
theorem all (x : XX) : StX (x.1) (x.2.1) (x.2.2.1) (x.2.2.2.1) (x.2.2.2.2.1) (x.2.2.2.2.2.1) (x.2.2.2.2.2.2.1) (x.2.2.2.2.2.2.2.1) (x.2.2.2.2.2.2.2.2.1) (x.2.2.2.2.2.2.2.2.2.1) (x.2.2.2.2.2.2.2.2.2.2.1) (x.2.2.2.2.2.2.2.2.2.2.2.1) (x.2.2.2.2.2.2.2.2.2.2.2.2.1) (x.2.2.2.2.2.2.2.2.2.2.2.2.2.1) (x.2.2.2.2.2.2.2.2.2.2.2.2.2.2.1) (x.2.2.2.2.2.2.2.2.2.2.2.2.2.2.2.1) (x.2.2.2.2.2.2.2.2.2.2.2.2.2.2.2.2.1) (x.2.2.2.2.2.2.2.2.2.2.2.2.2.2.2.2.2.1) (x.2.2.2.2.2.2.2.2.2.2.2.2.2.2.2.2.2.2.1) (x.2.2.2.2.2.2.2.2.2.2.2.2.2.2.2.2.2.2.2.1) (x.2.2.2.2.2.2.2.2.2.2.2.2.2.2.2.2.2.2.2.2.1) (x.2.2.2.2.2.2.2.2.2.2.2.2.2.2.2.2.2.2.2.2.2.1) (x.2.2.2.2.2.2.2.2.2.2.2.2.2.2.2.2.2.2.2.2.2.2.1) (x.2.2.2.2.2.2.2.2.2.2.2.2.2.2.2.2.2.2.2.2.2.2.2.1) (x.2.2.2.2.2.2.2.2.2.2.2.2.2.2.2.2.2.2.2.2.2.2.2.2.1) (x.2.2.2.2.2.2.2.2.2.2.2.2.2.2.2.2.2.2.2.2.2.2.2.2.2.1) (x.2.2.2.2.2.2.2.2.2.2.2.2.2.2.2.2.2.2.2.2.2.2.2.2.2.2.1) (x.2.2.2.2.2.2.2.2.2.2.2.2.2.2.2.2.2.2.2.2.2.2.2.2.2.2.2.1) (x.2.2.2.2.2.2.2.2.2.2.2.2.2.2.2.2.2.2.2.2.2.2.2.2.2.2.2.2.1) (x.2.2.2.2.2.2.2.2.2.2.2.2.2.2.2.2.2.2.2.2.2.2.2.2.2.2.2.2.2.1) (x.2.2.2.2.2.2.2.2.2.2.2.2.2.2.2.2.2.2.2.2.2.2.2.2.2.2.2.2.2.2.1) (x.2.2.2.2.2.2.2.2.2.2.2.2.2.2.2.2.2.2.2.2.2.2.2.2.2.2.2.2.2.2.2.1) (x.2.2.2.2.2.2.2.2.2.2.2.2.2.2.2.2.2.2.2.2.2.2.2.2.2.2.2.2.2.2.2.2.1) (x.2.2.2.2.2.2.2.2.2.2.2.2.2.2.2.2.2.2.2.2.2.2.2.2.2.2.2.2.2.2.2.2.2.1) (x.2.2.2.2.2.2.2.2.2.2.2.2.2.2.2.2.2.2.2.2.2.2.2.2.2.2.2.2.2.2.2.2.2.2.1) (x.2.2.2.2.2.2.2.2.2.2.2.2.2.2.2.2.2.2.2.2.2.2.2.2.2.2.2.2.2.2.2.2.2.2.2.1) (x.2.2.2.2.2.2.2.2.2.2.2.2.2.2.2.2.2.2.2.2.2.2.2.2.2.2.2.2.2.2.2.2.2.2.2.2.1) (x.2.2.2.2.2.2.2.2.2.2.2.2.2.2.2.2.2.2.2.2.2.2.2.2.2.2.2.2.2.2.2.2.2.2.2.2.2.1) (x.2.2.2.2.2.2.2.2.2.2.2.2.2.2.2.2.2.2.2.2.2.2.2.2.2.2.2.2.2.2.2.2.2.2.2.2.2.2.1) (x.2.2.2.2.2.2.2.2.2.2.2.2.2.2.2.2.2.2.2.2.2.2.2.2.2.2.2.2.2.2.2.2.2.2.2.2.2.2.2.1) (x.2.2.2.2.2.2.2.2.2.2.2.2.2.2.2.2.2.2.2.2.2.2.2.2.2.2.2.2.2.2.2.2.2.2.2.2.2.2.2.2.1) (x.2.2.2.2.2.2.2.2.2.2.2.2.2.2.2.2.2.2.2.2.2.2.2.2.2.2.2.2.2.2.2.2.2.2.2.2.2.2.2.2.2) := eps_all (ne := neX) (P := fun x => StX (x.1) (x.2.1) (x.2.2.1) (x.2.2.2.1) (x.2.2.2.2.1) (x.2.2.2.2.2.1) (x.2.2.2.2.2.2.1) (x.2.2.2.2.2.2.2.1) (x.2.2.2.2.2.2.2.2.1) (x.2.2.2.2.2.2.2.2.2.1) (x.2.2.2.2.2.2.2.2.2.2.1) (x.2.2.2.2.2.2.2.2.2.2.2.1) (x.2.2.2.2.2.2.2.2.2.2.2.2.1) (x.2.2.2.2.2.2.2.2.2.2.2.2.2.1) (x.2.2.2.2.2.2.2.2.2.2.2.2.2.2.1) (x.2.2.2.2.2.2.2.2.2.2.2.2.2.2.2.1) (x.2.2.2.2.2.2.2.2.2.2.2.2.2.2.2.2.1) (x.2.2.2.2.2.2.2.2.2.2.2.2.2.2.2.2.2.1) (x.2.2.2.2.2.2.2.2.2.2.2.2.2.2.2.2.2.2.1) (x.2.2.2.2.2.2.2.2.2.2.2.2.2.2.2.2.2.2.2.1) (x.2.2.2.2.2.2.2.2.2.2.2.2.2.2.2.2.2.2.2.2.1) (x.2.2.2.2.2.2.2.2.2.2.2.2.2.2.2.2.2.2.2.2.2.1) (x.2.2.2.2.2.2.2.2.2.2.2.2.2.2.2.2.2.2.2.2.2.2.1) (x.2.2.2.2.2.2.2.2.2.2.2.2.2.2.2.2.2.2.2.2.2.2.2.1) (x.2.2.2.2.2.2.2.2.2.2.2.2.2.2.2.2.2.2.2.2.2.2.2.2.1) (x.2.2.2.2.2.2.2.2.2.2.2.2.2.2.2.2.2.2.2.2.2.2.2.2.2.1) (x.2.2.2.2.2.2.2.2.2.2.2.2.2.2.2.2.2.2.2.2.2.2.2.2.2.2.1) (x.2.2.2.2.2.2.2.2.2.2.2.2.2.2.2.2.2.2.2.2.2.2.2.2.2.2.2.1) (x.2.2.2.2.2.2.2.2.2.2.2.2.2.2.2.2.2.2.2.2.2.2.2.2.2.2.2.2.1) (x.2.2.2.2.2.2.2.2.2.2.2.2.2.2.2.2.2.2.2.2.2.2.2.2.2.2.2.2.2.1) (x.2.2.2.2.2.2.2.2.2.2.2.2.2.2.2.2.2.2.2.2.2.2.2.2.2.2.2.2.2.2.1) (x.2.2.2.2.2.2.2.2.2.2.2.2.2.2.2.2.2.2.2.2.2.2.2.2.2.2.2.2.2.2.2.1) (x.2.2.2.2.2.2.2.2.2.2.2.2.2.2.2.2.2.2.2.2.2.2.2.2.2.2.2.2.2.2.2.2.1) (x.2.2.2.2.2.2.2.2.2.2.2.2.2.2.2.2.2.2.2.2.2.2.2.2.2.2.2.2.2.2.2.2.2.1) (x.2.2.2.2.2.2.2.2.2.2.2.2.2.2.2.2.2.2.2.2.2.2.2.2.2.2.2.2.2.2.2.2.2.2.1) (x.2.2.2.2.2.2.2.2.2.2.2.2.2.2.2.2.2.2.2.2.2.2.2.2.2.2.2.2.2.2.2.2.2.2.2.1) (x.2.2.2.2.2.2.2.2.2.2.2.2.2.2.2.2.2.2.2.2.2.2.2.2.2.2.2.2.2.2.2.2.2.2.2.2.1) (x.2.2.2.2.2.2.2.2.2.2.2.2.2.2.2.2.2.2.2.2.2.2.2.2.2.2.2.2.2.2.2.2.2.2.2.2.2.1) (x.2.2.2.2.2.2.2.2.2.2.2.2.2.2.2.2.2.2.2.2.2.2.2.2.2.2.2.2.2.2.2.2.2.2.2.2.2.2.1) (x.2.2.2.2.2.2.2.2.2.2.2.2.2.2.2.2.2.2.2.2.2.2.2.2.2.2.2.2.2.2.2.2.2.2.2.2.2.2.2.1) (x.2.2.2.2.2.2.2.2.2.2.2.2.2.2.2.2.2.2.2.2.2.2.2.2.2.2.2.2.2.2.2.2.2.2.2.2.2.2.2.2.1) (x.2.2.2.2.2.2.2.2.2.2.2.2.2.2.2.2.2.2.2.2.2.2.2.2.2.2.2.2.2.2.2.2.2.2.2.2.2.2.2.2.2)) (by with_unfolding_all exact core) x
end C_law_turn
theorem law_turn {w : World}
  {p : Program}
  {loose : List PySem.Str}
  {mean : ExcName → Option Value}
  {mg mb : PySem.Str → Option Value}
  {r : RealA}
  {plan : List (List Int)}
  {bl : List Bool}
  {n : Nat}
  (O : RealOk w r plan bl n)
  (OW : OwnOk w r.o plan bl n)
  (hvp : r.o.vp.length = n)
  {dp un : Nat}
  {gd : Option (List Code)}
  {a : Addr}
  {ccd : Value}
  {outer : List Env}
  {A₀ : Around}
  {base h₀ : Heap}
  {L : Addr}
  {m : PySem.Str → Option Value}
  {s : Shared}
  {Q : Flow → Shared → Prop}
  {E : Value → Shared → Prop}
  {z : Addr}
  {nz : Nat}
  {vh ve vh2 vd vf vg pls : List Value}
  {ne c6 cP : Nat}
  {θ : Nat → Th}
  {S : S}
  {cj cm P : Addr}
  {ps : List Int}
  {Rst : List (Addr × Obj)}
  (B : Below A₀ base outer h₀)
  (F : Fr h₀ L s.heap m)
  (X : (hd.heap_1 w.params).In h₀)
  (T : Top p loose mean mg mb h₀)
  (N : News h₀ L s.heap (r.led w n z nz vh ve ne θ vh2 vd vf vg c6 Rst))
  (off : r.Apart n z Rst)
  (roff : ∀ q ∈ Rst, q.1 ∉ r.o.adr)
  (St : Both r n z vh ve θ vh2 vd vf vg S)
  (hmP : (P, listOf pls.toArray cP) ∈ Rst)
  (hpl : m (PySem.Str.ofString "places") = some (.ref P))
  (hps : IntsAre pls ps)
  (hin : ∀ q ∈ ps, 0 ≤ q ∧ q < (n : Int))
  (hlp : ps.length ≤ 10)
  (hd : dp + 60 < recursionLimit)
  (hu : un + 600 < cLine)
  (ret : ∀ h' tk' z' nz' vh' ve' ne' θ' vh2' vd' vf' vg' c6', Fr h₀ L h' m → News h₀ L h' (r.led w n z' nz' vh' ve' ne' θ' vh2' vd' vf' vg' c6' Rst) → r.Apart n z' Rst → Both r n z' vh' ve' θ' vh2' vd' vf' vg' (allA plan bl 5 n S ps) → Q .next { s with heap := h', toks := tk' }) : wpAny (model Pr w) (ktrTop dp un gd (PySem.Str.ofString "law") lawScope L a ccd (lawCl r cj cm) outer) (execs turnBody (envX (PySem.Str.ofString "law") lawScope L a ccd (lawCl r cj cm))) Q E s :=
  C_law_turn.all (w, p, loose, mean, mg, mb, r, plan, bl, n, dp, un, gd, a, ccd, outer, A₀, base, h₀, L, m, s, Q, E, z, nz, vh, ve, vh2, vd, vf, vg, pls, ne, c6, cP, θ, cj, cm, P, ps, Rst) S O OW hvp B F X T N off roff St hmP hpl hps hin hlp hd hu ret
end Mine
end
theorem Mine.rs_LawPlaces : True := by
  w_top off
  trivial
section
open PySem PySem.W PyProof.Rows PySem.Calls LSm
namespace Mine
noncomputable abbrev ob0 {g : Heap} {L : Addr} {h : Heap} {a : Addr} {o : Obj} {l : List (Addr × Obj)} (_ : News g L h ((a, o) :: l)) : Obj := o
noncomputable abbrev lst1 {g : Heap} {L : Addr} {h : Heap} {a : Addr} {vs : List Value} {c : Nat} {p : Addr × Obj} {l : List (Addr × Obj)} (_ : News g L h (p :: (a, listOf vs.toArray c) :: l)) : List Value := vs
local macro_rules | `(tactic| k_lt $h:ident) => `(tactic| skip)
theorem law_places {w : World} {p : Program} {loose : List PySem.Str} {mean : ExcName → Option Value} {mg mb : PySem.Str → Option Value} {r : RealA} {plan : List (List Int)} {bl : List Bool} {n : Nat} (O : RealOk w r plan bl n) (OW : OwnOk w r.o plan bl n) (hvp : r.o.vp.length = n)
  {dp un : Nat} {gd : Option (List Code)} {a : Addr} {ccd : Value} {outer : List Env} {A₀ : Around} {base h₀ : Heap} {L : Addr} {m : PySem.Str → Option Value} {s : Shared} {Q : Flow → Shared → Prop} {E : Value → Shared → Prop}
  {z : Addr} {nz : Nat} {vh ve vh2 vd vf vg pls : List Value} {ne c6 cP : Nat} {θ : Nat → Th} {S : S} {cj cm P : Addr} {om : Obj} {tm : Tok} {ps : List Int} {Rst : List (Addr × Obj)} {tps : Array Value}
  (B : Below A₀ base outer h₀) (F : Fr h₀ L s.heap m) (X : (hd.heap_1 w.params).In h₀) (T : Top p loose mean mg mb h₀)
  (N : News h₀ L s.heap (r.led w n z nz vh ve ne θ vh2 vd vf vg c6 Rst)) (off : r.Apart n z Rst) (roff : ∀ q ∈ Rst, q.1 ∉ r.o.adr) (St : Both r n z vh ve θ vh2 vd vf vg S)
  (hmP : (P, listOf pls.toArray cP) ∈ Rst) (hpl : m (PySem.Str.ofString "listed") = some (.ref P)) (hps : IntsAre pls ps) (hin : ∀ q ∈ ps, 0 ≤ q ∧ q < (n : Int)) (hlp : ps.length ≤ 10)
  (hgt : (427, tabObj tps) ∈ Rst) (hmm : (cm, om) ∈ Rst) (hom : om.data = .cell (some (.int (n : Int) tm)))
  (hd : dp + 60 < recursionLimit) (hu : un + 600 < cLine)
  (ret : ∀ h' tk' m', Fr h₀ L h' m' → GrownAt 427 h' → Q (.ret (.bool true)) { s with heap := h', toks := tk' }) :
  wpAny (model Pr w) (ktrTop dp un gd (PySem.Str.ofString "law") lawScope L a ccd (lawCl r cj cm) outer) (execs (lawRest 14) (envX (PySem.Str.ofString "law") lawScope L a ccd (lawCl r cj cm))) Q E s := by
  unfold Pr
  refine wpAny_noRaise ?_
  rw [show lawRest 14 = _ :: lawRest 15 from rfl]
  rw [show lawScope = { kind := _, names := _, isGenerator := _, isCoroutine := _, more := _ } from rfl]
  revert X; k_fill; intro X
  have hn5 := O.small
  have ecm := hom
  have Nw := fun _ : Unit => N
  obtain ⟨R, N1, mled⟩ := led_open (Ex := [(P, listOf pls.toArray cP), (cm, om)]) N (fun q hq => by
    replace hq := mem_ors hq
    rcases hq with rfl | rfl
    · exact hmP
    · exact hmm)
  clear N
  dsimp only [RealA.ex, RealA.own5] at N1
  simp only [List.cons_append, List.nil_append] at N1
  repeat' ((fail_if_success (with_reducible show wpAny _ _ (pyIter _) _ _ _)); (first | (k_unfold; (try dsimp only)) | walk1 | (dsimp only; walk1) | fail "no step"))
  rename News _ _ _ _ => N9
  rename Fr _ _ _ _ => F9
  rename IntsAre _ (List.reverse _) => hI2
  obtain ⟨T', ez⟩ : ∃ T, T = adr0 N9 := ⟨_, rfl⟩
  dsimp only [adr0] at ez
  subst ez
  obtain ⟨Rv, ez⟩ : ∃ T, T = adr1 N9 := ⟨_, rfl⟩
  dsimp only [adr1] at ez
  subst ez
  rename ∀ (q : Addr × Obj), _ ∈ _ → _ < T' => ltT
  rename ∀ (q : Addr × Obj), _ ∈ _ → _ < Rv => ltR
  obtain ⟨rws, hrws⟩ : ∃ rws, rws = lst1 N9 := ⟨_, rfl⟩
  dsimp only [lst1] at hrws
  subst hrws
  obtain ⟨tup, htup⟩ : ∃ o, o = ob0 N9 := ⟨_, rfl⟩
  dsimp only [ob0] at htup
  have N10 : News h₀ L _ ((T', tup) :: (Rv, listOf rws.toArray 0) :: r.led w n z nz vh ve ne θ vh2 vd vf vg c6 Rst) := fun q hq => by
    rcases List.mem_cons.mp hq with rfl | hq
    · rw [htup]; exact N9 _ (.head _)
    · rcases List.mem_cons.mp hq with rfl | hq
      · exact N9 _ (.tail _ (.head _))
      · exact N9 q (.tail _ (.tail _ (.tail _ (mled q hq))))
  have ltT' : ∀ q ∈ r.led w n z nz vh ve ne θ vh2 vd vf vg c6 Rst, @LT.lt Nat _ q.1 T' := fun q hq => ltT q (.tail _ (.tail _ (mled q hq)))
  have ltR' : ∀ q ∈ r.led w n z nz vh ve ne θ vh2 vd vf vg c6 Rst, @LT.lt Nat _ q.1 Rv := fun q hq => ltR q (.tail _ (mled q hq))
  have hRin : ∀ q ∈ (rangeKs 0 ((n : Int) - 0).toNat).reverse, 0 ≤ q ∧ q < (n : Int) := fun q hq => by
    have := mem_rangeKs (List.mem_reverse.mp hq); omega
  have hRlen : (rangeKs 0 ((n : Int) - 0).toNat).reverse.length ≤ 10 := by rw [List.length_reverse, rangeKs_length]; omega
  clear ltT ltR mled N9
  refine iter_tupTurns (vs := [.ref P, .ref Rv]) (lo := tup) (n := 0) (by rfl) F9 N10 (.head _) (by rw [htup]) (by rw [htup]) fun I hI => ?_
  have ltI : ∀ q ∈ r.led w n z nz vh ve ne θ vh2 vd vf vg c6 Rst, @LT.lt Nat _ q.1 I := fun q hq => hI q (.tail _ (.tail _ hq))
  have offA : r.Apart n z ((I, itR 0 0) :: (T', tup) :: (Rv, listOf rws.toArray 0) :: Rst) := apart_cons (e := [(I, itR 0 0), (T', tup), (Rv, listOf rws.toArray 0)]) off fun p hp => by
    replace hp := mem_ors hp
    rcases hp with rfl | rfl | rfl
    · exact fresh_adrs ltI
    · exact fresh_adrs ltT'
    · exact fresh_adrs ltR'
  have roff3 : ∀ it : Obj, ∀ q ∈ (I, it) :: (T', tup) :: (Rv, listOf rws.toArray 0) :: Rst, q.1 ∉ r.o.adr := fun it q hq => by
    rcases List.mem_cons.mp hq with rfl | hq
    · exact fresh_own ltI
    · rcases List.mem_cons.mp hq with rfl | hq
      · exact fresh_own ltT'
      · rcases List.mem_cons.mp hq with rfl | hq
        · exact fresh_own ltR'
        · exact roff q hq
  clear N10 F9
  show ItemsRest _ _ _ _ _ _ _ _ _ _ _ _ [.val (.ref P), .val (.ref Rv)] _ _
  refine ItemsRest.val fun h1 tk1 FK1 => ?_
  intro it1 hit1 NK1
  have NK1 : News h₀ L h1 ((I, it1) :: (T', tup) :: (Rv, listOf rws.toArray 0) :: r.led w n z nz vh ve ne θ vh2 vd vf vg c6 Rst) := NK1
  (try dsimp only)
  (try k_fold)
  repeat' ((fail_if_success (with_reducible show wpAny _ _ (execs _ _) _ _ _)); (first | (k_unfold; (try dsimp only)) | walk1 | (dsimp only; walk1) | fail "no step"))
  rename News _ _ _ _ => NJ1
  rename Fr _ _ _ _ => FJ1
  k_dflt (refine' law_turn O OW hvp (P := P) (pls := pls) (Rst := (I, it1) :: (T', tup) :: (Rv, listOf rws.toArray 0) :: Rst) B FJ1 X T (fun q hq => NJ1 q ((led_part (e := [(I, it1), (T', tup), (Rv, listOf rws.toArray 0)])).mpr hq)) (apart_same (Rst := (I, itR 0 0) :: (T', tup) :: (Rv, listOf rws.toArray 0) :: Rst) offA rfl) (roff3 it1) St (.tail _ (.tail _ (.tail _ hmP))) rfl hps hin hlp hd hu ?_)
  intro h1' tk1' z1 nz1 vh1 ve1 ne1 θ1 vh21 vd1 vf1 vg1 c61 F1 N1 off1 St1
  clear NJ1 FJ1
  refine ⟨h1', tk1', _, (T', tup) :: (Rv, listOf rws.toArray 0) :: r.led w n z1 nz1 vh1 ve1 ne1 θ1 vh21 vd1 vf1 vg1 c61 Rst, rfl, F1, fun q hq => N1 q ((led_part (e := [(I, it1), (T', tup), (Rv, listOf rws.toArray 0)])).mp hq), ?_, ⟨.head _, trivial⟩, ?_⟩
  · intro q hq q' hq'
    rw [List.mem_singleton.mp hq']
    rcases List.mem_cons.mp hq with rfl | hq
    · exact Nat.ne_of_lt (hI _ (.head _))
    · rcases List.mem_cons.mp hq with rfl | hq
      · exact Nat.ne_of_lt (hI _ (.tail _ (.head _)))
      · exact led_offI (fun q hq => Nat.ne_of_lt (hI q (.tail _ (.tail _ hq)))) (off1 I (List.mem_append_right _ (.head _))) q hq
  refine ItemsRest.val fun h2 tk2 FK2 => ?_
  intro it2 hit2 NK2
  have NK2 : News h₀ L h2 ((I, it2) :: (T', tup) :: (Rv, listOf rws.toArray 0) :: r.led w n z1 nz1 vh1 ve1 ne1 θ1 vh21 vd1 vf1 vg1 c61 Rst) := NK2
  (try dsimp only)
  (try k_fold)
  repeat' ((fail_if_success (with_reducible show wpAny _ _ (execs _ _) _ _ _)); (first | (k_unfold; (try dsimp only)) | walk1 | (dsimp only; walk1) | fail "no step"))
  rename News _ _ _ _ => NJ2
  rename Fr _ _ _ _ => FJ2
  k_dflt (refine' law_turn O OW hvp (P := Rv) (pls := rws) (Rst := (I, it2) :: (T', tup) :: (Rv, listOf rws.toArray 0) :: Rst) B FJ2 X T (fun q hq => NJ2 q ((led_part (e := [(I, it2), (T', tup), (Rv, listOf rws.toArray 0)])).mpr hq)) (apart_same (Rst := (I, itR 0 0) :: (T', tup) :: (Rv, listOf rws.toArray 0) :: Rst) off1 rfl) (roff3 it2) St1 (.tail _ (.tail _ (.head _))) rfl hI2 hRin hRlen hd hu ?_)
  intro h2' tk2' z2 nz2 vh2 ve2 ne2 θ2 vh22 vd2 vf2 vg2 c62 F2 N2 off2 St2
  clear NJ2 FJ2
  refine ⟨h2', tk2', _, (T', tup) :: (Rv, listOf rws.toArray 0) :: r.led w n z2 nz2 vh2 ve2 ne2 θ2 vh22 vd2 vf2 vg2 c62 Rst, rfl, F2, fun q hq => N2 q ((led_part (e := [(I, it2), (T', tup), (Rv, listOf rws.toArray 0)])).mp hq), ?_, ⟨.head _, trivial⟩, ?_⟩
  · intro q hq q' hq'
    rw [List.mem_singleton.mp hq']
    rcases List.mem_cons.mp hq with rfl | hq
    · exact Nat.ne_of_lt (hI _ (.head _))
    · rcases List.mem_cons.mp hq with rfl | hq
      · exact Nat.ne_of_lt (hI _ (.tail _ (.head _)))
      · exact led_offI (fun q hq => Nat.ne_of_lt (hI q (.tail _ (.tail _ hq)))) (off2 I (List.mem_append_right _ (.head _))) q hq
  refine ItemsRest.zero fun h3 tk3 F3 N3 => ?_
  dsimp only
  exact law_last O F3 X T N3 (fun q hq => .tail _ (.tail _ (List.mem_append_left _ hq))) (.tail _ (.tail _ (List.mem_append_right _ (List.mem_append_left _ (.tail _ (.head _)))))) (.tail _ (.tail _ (List.mem_append_right _ (List.mem_append_left _ (.tail _ (.tail _ (.head _)))))))
    (.tail _ (.tail _ (List.mem_append_right _ (List.mem_append_right _ hgt)))) (.tail _ (.tail _ (List.mem_append_right _ (List.mem_append_right _ hmm)))) hom St2.h1 St2.h4 St2.h5 St2.len St2.rel St2.cz fun h' tk' m' F' => ret _ _ _ F'
end Mine
end
theorem Mine.rs_LawEarly : True := by
  w_top off
  trivial
section
open PySem PySem.W PyProof.Rows PySem.Calls LSm
namespace Mine
namespace C_law_early
noncomputable abbrev XX : Type := (World) × (Program) × (List PySem.Str) × (ExcName → Option Value) × (PySem.Str → Option Value) × (PySem.Str → Option Value) × (RealA) × (List (List Int)) × (List Bool) × (Nat) × (Nat) × (Nat) × (Option (List Code)) × (Addr) × (Value) × (List Env) × (Around) × (Heap) × (Heap) × (Addr) × (PySem.Str → Option Value) × (Shared) × (Flow → Shared → Prop) × (Value → Shared → Prop) × (Addr) × (Nat) × (List Value) × (List Value) × (List Value) × (List Value) × (List Value) × (List Value) × (List Value) × (List Value) × (Nat) × (Nat) × (Nat) × (Nat) × (Nat → Th) × (Addr) × (Addr) × (Addr) × (Addr) × (Obj) × (Tok) × (List Int) × (List Int) × (List (Addr × Obj)) × (Array Value)
noncomputable def StX (w : World) (p : Program) (loose : List PySem.Str) (mean : ExcName → Option Value) (mg : PySem.Str → Option Value) (mb : PySem.Str → Option Value) (r : RealA) (plan : List (List Int)) (bl : List Bool) (n : Nat) (dp : Nat) (un : Nat) (gd : Option (List Code)) (a : Addr) (ccd : Value) (outer : List Env) (A₀ : Around) (base : Heap) (h₀ : Heap) (L : Addr) (m : PySem.Str → Option Value) (s : Shared) (Q : Flow → Shared → Prop) (E : Value → Shared → Prop) (z : Addr) (nz : Nat) (vh : List Value) (ve : List Value) (vh2 : List Value) (vd : List Value) (vf : List Value) (vg : List Value) (pls : List Value) (pes : List Value) (ne : Nat) (c6 : Nat) (cP : Nat) (cE : Nat) (θ : Nat → Th) (cj : Addr) (cm : Addr) (P : Addr) (Pe : Addr) (om : Obj) (tm : Tok) (ps : List Int) (es : List Int) (Rst : List (Addr × Obj)) (tps : Array Value) : Prop :=
  ∀ (S : S) (O : RealOk w r plan bl n) (OW : OwnOk w r.o plan bl n) (hvp : r.o.vp.length = n) (B : Below A₀ base outer h₀) (F : Fr h₀ L s.heap m) (X : (hd.heap_1 w.params).In h₀) (T : Top p loose mean mg mb h₀) (N : News h₀ L s.heap (r.led w n z nz vh ve ne θ vh2 vd vf vg c6 Rst)) (off : r.Apart n z Rst) (roff : ∀ q ∈ Rst, q.1 ∉ r.o.adr) (St : Both r n z vh ve θ vh2 vd vf vg S) (hmP : (P, listOf pls.toArray cP) ∈ Rst) (hpl : m (PySem.Str.ofString "listed") = some (.ref P)) (hps : IntsAre pls ps) (hin : ∀ q ∈ ps, 0 ≤ q ∧ q < (n : Int)) (hlp : ps.length ≤ 10) (hmE : (Pe, listOf pes.toArray cE) ∈ Rst) (hpe : m (PySem.Str.ofString "early") = some (.ref Pe)) (hes : IntsAre pes es) (hine : ∀ q ∈ es, 0 ≤ q ∧ q < (n : Int)) (hgt : (427, tabObj tps) ∈ Rst) (hmm : (cm, om) ∈ Rst) (hom : om.data = .cell (some (.int (n : Int) tm))) (hd : dp + 60 < recursionLimit) (hu : un + 600 < cLine) (ret : ∀ h' tk' m', Fr h₀ L h' m' → GrownAt 427 h' → Q (.ret (.bool true)) { s with heap := h', toks := tk' }), wpAny (model Pr w) (ktrTop dp un gd (PySem.Str.ofString "law") lawScope L a ccd (lawCl r cj cm) outer) (execs (lawRest 13) (envX (PySem.Str.ofString "law") lawScope L a ccd (lawCl r cj cm))) Q E s
theorem neX : Nonempty XX := by
  refine ⟨?_⟩
  repeat' (first | exact default | exact aWorld 1 | constructor | intro _)
noncomputable def cX : XX := @Classical.epsilon XX neX fun x => ¬ StX (x.1) (x.2.1) (x.2.2.1) (x.2.2.2.1) (x.2.2.2.2.1) (x.2.2.2.2.2.1) (x.2.2.2.2.2.2.1) (x.2.2.2.2.2.2.2.1) (x.2.2.2.2.2.2.2.2.1) (x.2.2.2.2.2.2.2.2.2.1) (x.2.2.2.2.2.2.2.2.2.2.1) (x.2.2.2.2.2.2.2.2.2.2.2.1) (x.2.2.2.2.2.2.2.2.2.2.2.2.1) (x.2.2.2.2.2.2.2.2.2.2.2.2.2.1) (x.2.2.2.2.2.2.2.2.2.2.2.2.2.2.1) (x.2.2.2.2.2.2.2.2.2.2.2.2.2.2.2.1) (x.2.2.2.2.2.2.2.2.2.2.2.2.2.2.2.2.1) (x.2.2.2.2.2.2.2.2.2.2.2.2.2.2.2.2.2.1) (x.2.2.2.2.2.2.2.2.2.2.2.2.2.2.2.2.2.2.1) (x.2.2.2.2.2.2.2.2.2.2.2.2.2.2.2.2.2.2.2.1) (x.2.2.2.2.2.2.2.2.2.2.2.2.2.2.2.2.2.2.2.2.1) (x.2.2.2.2.2.2.2.2.2.2.2.2.2.2.2.2.2.2.2.2.2.1) (x.2.2.2.2.2.2.2.2.2.2.2.2.2.2.2.2.2.2.2.2.2.2.1) (x.2.2.2.2.2.2.2.2.2.2.2.2.2.2.2.2.2.2.2.2.2.2.2.1) (x.2.2.2.2.2.2.2.2.2.2.2.2.2.2.2.2.2.2.2.2.2.2.2.2.1) (x.2.2.2.2.2.2.2.2.2.2.2.2.2.2.2.2.2.2.2.2.2.2.2.2.2.1) (x.2.2.2.2.2.2.2.2.2.2.2.2.2.2.2.2.2.2.2.2.2.2.2.2.2.2.1) (x.2.2.2.2.2.2.2.2.2.2.2.2.2.2.2.2.2.2.2.2.2.2.2.2.2.2.2.1) (x.2.2.2.2.2.2.2.2.2.2.2.2.2.2.2.2.2.2.2.2.2.2.2.2.2.2.2.2.1) (x.2.2.2.2.2.2.2.2.2.2.2.2.2.2.2.2.2.2.2.2.2.2.2.2.2.2.2.2.2.1) (x.2.2.2.2.2.2.2.2.2.2.2.2.2.2.2.2.2.2.2.2.2.2.2.2.2.2.2.2.2.2.1) (x.2.2.2.2.2.2.2.2.2.2.2.2.2.2.2.2.2.2.2.2.2.2.2.2.2.2.2.2.2.2.2.1) (x.2.2.2.2.2.2.2.2.2.2.2.2.2.2.2.2.2.2.2.2.2.2.2.2.2.2.2.2.2.2.2.2.1) (x.2.2.2.2.2.2.2.2.2.2.2.2.2.2.2.2.2.2.2.2.2.2.2.2.2.2.2.2.2.2.2.2.2.1) (x.2.2.2.2.2.2.2.2.2.2.2.2.2.2.2.2.2.2.2.2.2.2.2.2.2.2.2.2.2.2.2.2.2.2.1) (x.2.2.2.2.2.2.2.2.2.2.2.2.2.2.2.2.2.2.2.2.2.2.2.2.2.2.2.2.2.2.2.2.2.2.2.1) (x.2.2.2.2.2.2.2.2.2.2.2.2.2.2.2.2.2.2.2.2.2.2.2.2.2.2.2.2.2.2.2.2.2.2.2.2.1) (x.2.2.2.2.2.2.2.2.2.2.2.2.2.2.2.2.2.2.2.2.2.2.2.2.2.2.2.2.2.2.2.2.2.2.2.2.2.1) (x.2.2.2.2.2.2.2.2.2.2.2.2.2.2.2.2.2.2.2.2.2.2.2.2.2.2.2.2.2.2.2.2.2.2.2.2.2.2.1) (x.2.2.2.2.2.2.2.2.2.2.2.2.2.2.2.2.2.2.2.2.2.2.2.2.2.2.2.2.2.2.2.2.2.2.2.2.2.2.2.1) (x.2.2.2.2.2.2.2.2.2.2.2.2.2.2.2.2.2.2.2.2.2.2.2.2.2.2.2.2.2.2.2.2.2.2.2.2.2.2.2.2.1) (x.2.2.2.2.2.2.2.2.2.2.2.2.2.2.2.2.2.2.2.2.2.2.2.2.2.2.2.2.2.2.2.2.2.2.2.2.2.2.2.2.2.1) (x.2.2.2.2.2.2.2.2.2.2.2.2.2.2.2.2.2.2.2.2.2.2.2.2.2.2.2.2.2.2.2.2.2.2.2.2.2.2.2.2.2.2.1) (x.2.2.2.2.2.2.2.2.2.2.2.2.2.2.2.2.2.2.2.2.2.2.2.2.2.2.2.2.2.2.2.2.2.2.2.2.2.2.2.2.2.2.2.1) (x.2.2.2.2.2.2.2.2.2.2.2.2.2.2.2.2.2.2.2.2.2.2.2.2.2.2.2.2.2.2.2.2.2.2.2.2.2.2.2.2.2.2.2.2.1) (x.2.2.2.2.2.2.2.2.2.2.2.2.2.2.2.2.2.2.2.2.2.2.2.2.2.2.2.2.2.2.2.2.2.2.2.2.2.2.2.2.2.2.2.2.2.1) (x.2.2.2.2.2.2.2.2.2.2.2.2.2.2.2.2.2.2.2.2.2.2.2.2.2.2.2.2.2.2.2.2.2.2.2.2.2.2.2.2.2.2.2.2.2.2.1) (x.2.2.2.2.2.2.2.2.2.2.2.2.2.2.2.2.2.2.2.2.2.2.2.2.2.2.2.2.2.2.2.2.2.2.2.2.2.2.2.2.2.2.2.2.2.2.2.1) (x.2.2.2.2.2.2.2.2.2.2.2.2.2.2.2.2.2.2.2.2.2.2.2.2.2.2.2.2.2.2.2.2.2.2.2.2.2.2.2.2.2.2.2.2.2.2.2.2)
@[irreducible] noncomputable def w := cX.1
@[irreducible] noncomputable def p := cX.2.1
@[irreducible] noncomputable def loose := cX.2.2.1
@[irreducible] noncomputable def mean := cX.2.2.2.1
@[irreducible] noncomputable def mg := cX.2.2.2.2.1
@[irreducible] noncomputable def mb := cX.2.2.2.2.2.1
@[irreducible] noncomputable def r := cX.2.2.2.2.2.2.1
@[irreducible] noncomputable def plan := cX.2.2.2.2.2.2.2.1
@[irreducible] noncomputable def bl := cX.2.2.2.2.2.2.2.2.1
@[irreducible] noncomputable def n := cX.2.2.2.2.2.2.2.2.2.1
@[irreducible] noncomputable def dp := cX.2.2.2.2.2.2.2.2.2.2.1
@[irreducible] noncomputable def un := cX.2.2.2.2.2.2.2.2.2.2.2.1
@[irreducible] noncomputable def gd := cX.2.2.2.2.2.2.2.2.2.2.2.2.1
@[irreducible] noncomputable def a := cX.2.2.2.2.2.2.2.2.2.2.2.2.2.1
@[irreducible] noncomputable def ccd := cX.2.2.2.2.2.2.2.2.2.2.2.2.2.2.1
@[irreducible] noncomputable def outer := cX.2.2.2.2.2.2.2.2.2.2.2.2.2.2.2.1
@[irreducible] noncomputable def A₀ := cX.2.2.2.2.2.2.2.2.2.2.2.2.2.2.2.2.1
@[irreducible] noncomputable def base := cX.2.2.2.2.2.2.2.2.2.2.2.2.2.2.2.2.2.1
@[irreducible] noncomputable def h₀ := cX.2.2.2.2.2.2.2.2.2.2.2.2.2.2.2.2.2.2.1
@[irreducible] noncomputable def L := cX.2.2.2.2.2.2.2.2.2.2.2.2.2.2.2.2.2.2.2.1
@[irreducible] noncomputable def m := cX.2.2.2.2.2.2.2.2.2.2.2.2.2.2.2.2.2.2.2.2.1
@[irreducible] noncomputable def s := cX.2.2.2.2.2.2.2.2.2.2.2.2.2.2.2.2.2.2.2.2.2.1
@[irreducible] noncomputable def Q := cX.2.2.2.2.2.2.2.2.2.2.2.2.2.2.2.2.2.2.2.2.2.2.1
@[irreducible] noncomputable def E := cX.2.2.2.2.2.2.2.2.2.2.2.2.2.2.2.2.2.2.2.2.2.2.2.1
@[irreducible] noncomputable def z := cX.2.2.2.2.2.2.2.2.2.2.2.2.2.2.2.2.2.2.2.2.2.2.2.2.1
@[irreducible] noncomputable def nz := cX.2.2.2.2.2.2.2.2.2.2.2.2.2.2.2.2.2.2.2.2.2.2.2.2.2.1
@[irreducible] noncomputable def vh := cX.2.2.2.2.2.2.2.2.2.2.2.2.2.2.2.2.2.2.2.2.2.2.2.2.2.2.1
@[irreducible] noncomputable def ve := cX.2.2.2.2.2.2.2.2.2.2.2.2.2.2.2.2.2.2.2.2.2.2.2.2.2.2.2.1
@[irreducible] noncomputable def vh2 := cX.2.2.2.2.2.2.2.2.2.2.2.2.2.2.2.2.2.2.2.2.2.2.2.2.2.2.2.2.1
@[irreducible] noncomputable def vd := cX.2.2.2.2.2.2.2.2.2.2.2.2.2.2.2.2.2.2.2.2.2.2.2.2.2.2.2.2.2.1
@[irreducible] noncomputable def vf := cX.2.2.2.2.2.2.2.2.2.2.2.2.2.2.2.2.2.2.2.2.2.2.2.2.2.2.2.2.2.2.1
@[irreducible] noncomputable def vg := cX.2.2.2.2.2.2.2.2.2.2.2.2.2.2.2.2.2.2.2.2.2.2.2.2.2.2.2.2.2.2.2.1
@[irreducible] noncomputable def pls := cX.2.2.2.2.2.2.2.2.2.2.2.2.2.2.2.2.2.2.2.2.2.2.2.2.2.2.2.2.2.2.2.2.1
@[irreducible] noncomputable def pes := cX.2.2.2.2.2.2.2.2.2.2.2.2.2.2.2.2.2.2.2.2.2.2.2.2.2.2.2.2.2.2.2.2.2.1
@[irreducible] noncomputable def ne := cX.2.2.2.2.2.2.2.2.2.2.2.2.2.2.2.2.2.2.2.2.2.2.2.2.2.2.2.2.2.2.2.2.2.2.1
@[irreducible] noncomputable def c6 := cX.2.2.2.2.2.2.2.2.2.2.2.2.2.2.2.2.2.2.2.2.2.2.2.2.2.2.2.2.2.2.2.2.2.2.2.1
@[irreducible] noncomputable def cP := cX.2.2.2.2.2.2.2.2.2.2.2.2.2.2.2.2.2.2.2.2.2.2.2.2.2.2.2.2.2.2.2.2.2.2.2.2.1
@[irreducible] noncomputable def cE := cX.2.2.2.2.2.2.2.2.2.2.2.2.2.2.2.2.2.2.2.2.2.2.2.2.2.2.2.2.2.2.2.2.2.2.2.2.2.1
@[irreducible] noncomputable def θ := cX.2.2.2.2.2.2.2.2.2.2.2.2.2.2.2.2.2.2.2.2.2.2.2.2.2.2.2.2.2.2.2.2.2.2.2.2.2.2.1
@[irreducible] noncomputable def cj := cX.2.2.2.2.2.2.2.2.2.2.2.2.2.2.2.2.2.2.2.2.2.2.2.2.2.2.2.2.2.2.2.2.2.2.2.2.2.2.2.1
@[irreducible] noncomputable def cm := cX.2.2.2.2.2.2.2.2.2.2.2.2.2.2.2.2.2.2.2.2.2.2.2.2.2.2.2.2.2.2.2.2.2.2.2.2.2.2.2.2.1
@[irreducible] noncomputable def P := cX.2.2.2.2.2.2.2.2.2.2.2.2.2.2.2.2.2.2.2.2.2.2.2.2.2.2.2.2.2.2.2.2.2.2.2.2.2.2.2.2.2.1
@[irreducible] noncomputable def Pe := cX.2.2.2.2.2.2.2.2.2.2.2.2.2.2.2.2.2.2.2.2.2.2.2.2.2.2.2.2.2.2.2.2.2.2.2.2.2.2.2.2.2.2.1
@[irreducible] noncomputable def om := cX.2.2.2.2.2.2.2.2.2.2.2.2.2.2.2.2.2.2.2.2.2.2.2.2.2.2.2.2.2.2.2.2.2.2.2.2.2.2.2.2.2.2.2.1
@[irreducible] noncomputable def tm := cX.2.2.2.2.2.2.2.2.2.2.2.2.2.2.2.2.2.2.2.2.2.2.2.2.2.2.2.2.2.2.2.2.2.2.2.2.2.2.2.2.2.2.2.2.1
@[irreducible] noncomputable def ps := cX.2.2.2.2.2.2.2.2.2.2.2.2.2.2.2.2.2.2.2.2.2.2.2.2.2.2.2.2.2.2.2.2.2.2.2.2.2.2.2.2.2.2.2.2.2.1
@[irreducible] noncomputable def es := cX.2.2.2.2.2.2.2.2.2.2.2.2.2.2.2.2.2.2.2.2.2.2.2.2.2.2.2.2.2.2.2.2.2.2.2.2.2.2.2.2.2.2.2.2.2.2.1
@[irreducible] noncomputable def Rst := cX.2.2.2.2.2.2.2.2.2.2.2.2.2.2.2.2.2.2.2.2.2.2.2.2.2.2.2.2.2.2.2.2.2.2.2.2.2.2.2.2.2.2.2.2.2.2.2.1
@[irreducible] noncomputable def tps := cX.2.2.2.2.2.2.2.2.2.2.2.2.2.2.2.2.2.2.2.2.2.2.2.2.2.2.2.2.2.2.2.2.2.2.2.2.2.2.2.2.2.2.2.2.2.2.2.2
theorem core : StX w p loose mean mg mb r plan bl n dp un gd a ccd outer A₀ base h₀ L m s Q E z nz vh ve vh2 vd vf vg pls pes ne c6 cP cE θ cj cm P Pe om tm ps es Rst tps := by
  unfold StX
  intro S O OW hvp B F X T N off roff St hmP hpl hps hin hlp hmE hpe hes hine hgt hmm hom hd hu ret
  unfold Pr
  refine wpAny_noRaise ?_
  rw [show lawRest 13 = _ :: lawRest 14 from rfl]
  rw [show lawScope = { kind := _, names := _, isGenerator := _, isCoroutine := _, more := _ } from rfl]
  revert X; k_fill; intro X
  have hn5 := O.small
  have ecL := O.ecL
  have eco := O.eco
  have Nw := fun _ : Unit => N
  have N1 : News h₀ L s.heap [(Pe, listOf pes.toArray cE)] := fun q hq => by
    rw [List.mem_singleton.mp hq]; exact N _ (List.mem_append_right _ (List.mem_append_right _ hmE))
  clear N
  repeat' ((fail_if_success (with_reducible show wpAny _ _ (exec (Stmt.For _ _ _ _ _) _) _ _ _)); (first | (k_unfold; (try dsimp only)) | walk1 | (dsimp only; walk1) | fail "no step"))
  (with_unfolding_all refine' For_invVF F ?kk1 ?kk2 ?_)
  case kk1 => exact rfl
  case kk2 => exact rfl
  repeat' ((fail_if_success (with_reducible show wpAny _ _ (pyIter _) _ _ _)); (first | (k_unfold; (try dsimp only)) | walk1 | (dsimp only; walk1) | fail "no step"))
  clear N1
  refine iter_listN2 (vs := pes) (c := cE) (R := fun us A nx => ∃ z nz vh ve ne θ vh2 vd vf vg c6 ns', nx = r.led w n z nz vh ve ne θ vh2 vd vf vg c6 Rst ∧ r.Apart n z Rst ∧ Both r n z vh ve θ vh2 vd vf vg A ∧ IntsAre us ns' ∧ ∀ q ∈ ns', 0 ≤ q ∧ q < (n : Int)) (stepV plan bl 5) S (by rfl) F (Nw ()) (List.mem_append_right _ (List.mem_append_right _ hmE))
    ⟨_, _, _, _, _, _, _, _, _, _, _, _, rfl, off, St, hes, hine⟩ ?_ ?_ ?_
  · rintro us A nx ⟨z, nz, vh, ve, ne, θ, vh2, vd, vf, vg, c6, ns', rfl, _⟩
    exact List.mem_append_right _ (List.mem_append_right _ hmE)
  · rintro v us A nx I it h tk ⟨z, nz, vh, ve, ne, θ, vh2, vd, vf, vg, c6, ns', rfl, offA, StA, b1, b2⟩ hoffI F2 N2
    obtain ⟨q, t, ns'', rfl, rfl, b3⟩ : ∃ q t ns'', v = Value.int q t ∧ ns' = q :: ns'' ∧ IntsAre us ns'' := by cases b1 with | cons q t h => exact ⟨q, t, _, rfl, rfl, h⟩
    obtain ⟨q0, q1⟩ := b2 q List.mem_cons_self
    have hlen5 : hc A.held ≤ 5 := Nat.le_trans (hc_le _) (by rw [StA.len.held]; exact hn5)
    have offI : r.Apart n z ((I, it) :: Rst) := apart_cons (e := [(I, it)]) offA fun p hp hm => by
      rw [List.mem_singleton.mp hp] at hm
      obtain ⟨q, hq, e⟩ := RealA.adrs_mem (w := w) (zs := #[]) (nz := nz) (vh := vh) (ve := ve) (ne := ne) (θ := θ) hm
      exact hoffI q (List.mem_append_left _ hq) e
    have roffI : ∀ q ∈ (I, it) :: Rst, q.1 ∉ r.o.adr := fun q hq => by
      rcases List.mem_cons.mp hq with rfl | hq
      · intro hm
        have : ∃ o, (I, o) ∈ r.o.ex vh2 vd vf vg c6 := by
          replace hm := mem_ors hm
          rcases hm with e | e | e | e | e | e | e <;> (have e : I = _ := e) <;> rw [e]
          · exact ⟨_, .head _⟩
          · exact ⟨_, .tail _ (.head _)⟩
          · exact ⟨_, .tail _ (.tail _ (.head _))⟩
          · exact ⟨_, .tail _ (.tail _ (.tail _ (.head _)))⟩
          · exact ⟨_, .tail _ (.tail _ (.tail _ (.tail _ (.head _))))⟩
          · exact ⟨_, .tail _ (.tail _ (.tail _ (.tail _ (.tail _ (.head _)))))⟩
          · exact ⟨_, .tail _ (.tail _ (.tail _ (.tail _ (.tail _ (.tail _ (.head _))))))⟩
        obtain ⟨o, ho⟩ := this
        exact hoffI _ (own_in _ ho) rfl
      · exact roff q hq
    have N2I : News h₀ L h (r.led w n z nz vh ve ne θ vh2 vd vf vg c6 ((I, it) :: Rst)) := fun q hq => N2 q ((led_part (e := [(I, it)])).mpr hq)
    have N2w := fun _ : Unit => N2I
    obtain ⟨R2, N3, _⟩ := led_open (Ex := []) N2I (fun q hq => nomatch hq)
    clear N2I N2
    dsimp only [RealA.ex, RealA.own5] at N3
    simp only [List.cons_append, List.nil_append] at N3
    (try k_fold)
    repeat' ((fail_if_success (with_reducible show wpAny _ _ (call (Value.ref _) _) _ _ _)); (first | (k_unfold; (try dsimp only)) | walk1 | (dsimp only; walk1) | fail "no step"))
    have IH := real_all (p := p) (loose := loose) (mean := mean) (mg := mg) (mb := mb) O 5
    unfold LetR RSpec at IH
    have NA := N2w ()
    have NAr : News h₀ L h (r.all w n z #[] nz vh ve ne θ) := fun q hq => NA q (List.mem_append_left _ hq)
    clear N3
    k_dflt (refine' IH _ _ _ _ _ _ _ _ _ _ _ _ _ _ _ _ _ z nz vh ve ne θ A q t B F2 X T ?k5 NAr StA.h1 StA.h2 StA.len StA.rel StA.zoff q0 q1 hlen5 ?kd ?ku ?_)
    case k5 => rfl
    case kd => ktr_room
    case ku => ktr_units
    intro h3 tk3 z3 nz3 vh3 ve3 ne3 θ3 F3 N3 d1 d2 d3 d4 d5 d6 kp3
    obtain ⟨N4, off4⟩ := led_real NA offI N3 kp3 offI.own d6
    clear NA NAr N3 F2
    have N4w := fun _ : Unit => N4
    have hPA := plan_at O N4 off4
    obtain ⟨R4, N5, _⟩ := led_open (Ex := []) N4 (fun q hq => nomatch hq)
    clear N4
    dsimp only [RealA.ex, RealA.own5] at N5
    simp only [List.cons_append, List.nil_append] at N5
    (try dsimp only)
    (try k_fold)
    repeat' ((fail_if_success (with_reducible show wpAny _ _ (call (Value.ref _) _) _ _ _)); (first | (k_unfold; (try dsimp only)) | walk1 | (dsimp only; walk1) | fail "no step"))
    have IH2 := own_all (p := p) (loose := loose) (mean := mean) (mg := mg) (mb := mb) OW 5
    unfold OwnSpec at IH2
    have NA := N4w ()
    have NAo : News h₀ L h3 (r.o.ex vh2 vd vf vg c6) := fun q hq => NA q (own_in q hq)
    clear N5
    k_dflt (refine' IH2 _ _ _ _ _ _ _ _ _ _ _ _ _ _ _ _ _ vh2 vd vf vg c6 A q t B F3 X T ?k5 NAo StA.h3 StA.h4 StA.h5 StA.h6 StA.len hPA q0 q1 hlen5 ?kd ?ku ?_)
    case k5 => rfl
    case kd => ktr_room
    case ku => ktr_units
    intro h5 tk5 vh5 vd5 vf5 vg5 c65 F5 N6 e1 e2 e3 e4 kp5
    have N7 := led_own NA off4 roffI N6 kp5
    clear NA NAo N6 F3
    (try dsimp only)
    repeat' (first | (k_unfold; (try dsimp only)) | walk1 | (dsimp only; walk1) | fail "no step")
    refine ⟨h5, _, _, r.led w n z3 nz3 vh3 ve3 ne3 θ3 vh5 vd5 vf5 vg5 c65 Rst, rfl, F5, fun q hq => N7 q ((led_part (e := [(I, it)])).mp hq), led_offI (fun q hq => hoffI q hq) (off4 I (List.mem_append_right _ (.head _))), z3, nz3, vh3, ve3, ne3, θ3, vh5, vd5, vf5, vg5, c65, ns'', rfl,
      (fun a ha => off4 a ((List.mem_append.mp ha).elim (fun h => List.mem_append_left _ h) fun h => List.mem_append_right _ (.tail _ h))), ⟨d1, d2, e1, e2, e3, e4, letA_len O.inplan StA.len q0 q1, d3, d4, StA.cz.left d5⟩, b3, fun x hx => b2 x (List.mem_cons_of_mem _ hx)⟩
  · rintro v nx h tk ⟨z, nz, vh, ve, ne, θ, vh2, vd, vf, vg, c6, ns', rfl, offA, StA, _, _⟩ F2 N2
    dsimp only
    exact law_places O OW hvp B F2 X T N2 offA roff StA hmP (by show (if _ = _ then _ else _) = _; rw [if_neg (by decide)]; exact hpl) hps hin hlp hgt hmm hom hd hu fun h' tk' m' F' => ret _ _ _ F'
theorem all (x : XX) : StX (x.1) (x.2.1) (x.2.2.1) (x.2.2.2.1) (x.2.2.2.2.1) (x.2.2.2.2.2.1) (x.2.2.2.2.2.2.1) (x.2.2.2.2.2.2.2.1) (x.2.2.2.2.2.2.2.2.1) (x.2.2.2.2.2.2.2.2.2.1) (x.2.2.2.2.2.2.2.2.2.2.1) (x.2.2.2.2.2.2.2.2.2.2.2.1) (x.2.2.2.2.2.2.2.2.2.2.2.2.1) (x.2.2.2.2.2.2.2.2.2.2.2.2.2.1) (x.2.2.2.2.2.2.2.2.2.2.2.2.2.2.1) (x.2.2.2.2.2.2.2.2.2.2.2.2.2.2.2.1) (x.2.2.2.2.2.2.2.2.2.2.2.2.2.2.2.2.1) (x.2.2.2.2.2.2.2.2.2.2.2.2.2.2.2.2.2.1) (x.2.2.2.2.2.2.2.2.2.2.2.2.2.2.2.2.2.2.1) (x.2.2.2.2.2.2.2.2.2.2.2.2.2.2.2.2.2.2.2.1) (x.2.2.2.2.2.2.2.2.2.2.2.2.2.2.2.2.2.2.2.2.1) (x.2.2.2.2.2.2.2.2.2.2.2.2.2.2.2.2.2.2.2.2.2.1) (x.2.2.2.2.2.2.2.2.2.2.2.2.2.2.2.2.2.2.2.2.2.2.1) (x.2.2.2.2.2.2.2.2.2.2.2.2.2.2.2.2.2.2.2.2.2.2.2.1) (x.2.2.2.2.2.2.2.2.2.2.2.2.2.2.2.2.2.2.2.2.2.2.2.2.1) (x.2.2.2.2.2.2.2.2.2.2.2.2.2.2.2.2.2.2.2.2.2.2.2.2.2.1) (x.2.2.2.2.2.2.2.2.2.2.2.2.2.2.2.2.2.2.2.2.2.2.2.2.2.2.1) (x.2.2.2.2.2.2.2.2.2.2.2.2.2.2.2.2.2.2.2.2.2.2.2.2.2.2.2.1) (x.2.2.2.2.2.2.2.2.2.2.2.2.2.2.2.2.2.2.2.2.2.2.2.2.2.2.2.2.1) (x.2.2.2.2.2.2.2.2.2.2.2.2.2.2.2.2.2.2.2.2.2.2.2.2.2.2.2.2.2.1) (x.2.2.2.2.2.2.2.2.2.2.2.2.2.2.2.2.2.2.2.2.2.2.2.2.2.2.2.2.2.2.1) (x.2.2.2.2.2.2.2.2.2.2.2.2.2.2.2.2.2.2.2.2.2.2.2.2.2.2.2.2.2.2.2.1) (x.2.2.2.2.2.2.2.2.2.2.2.2.2.2.2.2.2.2.2.2.2.2.2.2.2.2.2.2.2.2.2.2.1) (x.2.2.2.2.2.2.2.2.2.2.2.2.2.2.2.2.2.2.2.2.2.2.2.2.2.2.2.2.2.2.2.2.2.1) (x.2.2.2.2.2.2.2.2.2.2.2.2.2.2.2.2.2.2.2.2.2.2.2.2.2.2.2.2.2.2.2.2.2.2.1) (x.2.2.2.2.2.2.2.2.2.2.2.2.2.2.2.2.2.2.2.2.2.2.2.2.2.2.2.2.2.2.2.2.2.2.2.1) (x.2.2.2.2.2.2.2.2.2.2.2.2.2.2.2.2.2.2.2.2.2.2.2.2.2.2.2.2.2.2.2.2.2.2.2.2.1) (x.2.2.2.2.2.2.2.2.2.2.2.2.2.2.2.2.2.2.2.2.2.2.2.2.2.2.2.2.2.2.2.2.2.2.2.2.2.1) (x.2.2.2.2.2.2.2.2.2.2.2.2.2.2.2.2.2.2.2.2.2.2.2.2.2.2.2.2.2.2.2.2.2.2.2.2.2.2.1) (x.2.2.2.2.2.2.2.2.2.2.2.2.2.2.2.2.2.2.2.2.2.2.2.2.2.2.2.2.2.2.2.2.2.2.2.2.2.2.2.1) (x.2.2.2.2.2.2.2.2.2.2.2.2.2.2.2.2.2.2.2.2.2.2.2.2.2.2.2.2.2.2.2.2.2.2.2.2.2.2.2.2.1) (x.2.2.2.2.2.2.2.2.2.2.2.2.2.2.2.2.2.2.2.2.2.2.2.2.2.2.2.2.2.2.2.2.2.2.2.2.2.2.2.2.2.1) (x.2.2.2.2.2.2.2.2.2.2.2.2.2.2.2.2.2.2.2.2.2.2.2.2.2.2.2.2.2.2.2.2.2.2.2.2.2.2.2.2.2.2.1) (x.2.2.2.2.2.2.2.2.2.2.2.2.2.2.2.2.2.2.2.2.2.2.2.2.2.2.2.2.2.2.2.2.2.2.2.2.2.2.2.2.2.2.2.1) (x.2.2.2.2.2.2.2.2.2.2.2.2.2.2.2.2.2.2.2.2.2.2.2.2.2.2.2.2.2.2.2.2.2.2.2.2.2.2.2.2.2.2.2.2.1) (x.2.2.2.2.2.2.2.2.2.2.2.2.2.2.2.2.2.2.2.2.2.2.2.2.2.2.2.2.2.2.2.2.2.2.2.2.2.2.2.2.2.2.2.2.2.1) (x.2.2.2.2.2.2.2.2.2.2.2.2.2.2.2.2.2.2.2.2.2.2.2.2.2.2.2.2.2.2.2.2.2.2.2.2.2.2.2.2.2.2.2.2.2.2.1) (x.2.2.2.2.2.2.2.2.2.2.2.2.2.2.2.2.2.2.2.2.2.2.2.2.2.2.2.2.2.2.2.2.2.2.2.2.2.2.2.2.2.2.2.2.2.2.2.1) (x.2.2.2.2.2.2.2.2.2.2.2.2.2.2.2.2.2.2.2.2.2.2.2.2.2.2.2.2.2.2.2.2.2.2.2.2.2.2.2.2.2.2.2.2.2.2.2.2) := eps_all (ne := neX) (P := fun x => StX (x.1) (x.2.1) (x.2.2.1) (x.2.2.2.1) (x.2.2.2.2.1) (x.2.2.2.2.2.1) (x.2.2.2.2.2.2.1) (x.2.2.2.2.2.2.2.1) (x.2.2.2.2.2.2.2.2.1) (x.2.2.2.2.2.2.2.2.2.1) (x.2.2.2.2.2.2.2.2.2.2.1) (x.2.2.2.2.2.2.2.2.2.2.2.1) (x.2.2.2.2.2.2.2.2.2.2.2.2.1) (x.2.2.2.2.2.2.2.2.2.2.2.2.2.1) (x.2.2.2.2.2.2.2.2.2.2.2.2.2.2.1) (x.2.2.2.2.2.2.2.2.2.2.2.2.2.2.2.1) (x.2.2.2.2.2.2.2.2.2.2.2.2.2.2.2.2.1) (x.2.2.2.2.2.2.2.2.2.2.2.2.2.2.2.2.2.1) (x.2.2.2.2.2.2.2.2.2.2.2.2.2.2.2.2.2.2.1) (x.2.2.2.2.2.2.2.2.2.2.2.2.2.2.2.2.2.2.2.1) (x.2.2.2.2.2.2.2.2.2.2.2.2.2.2.2.2.2.2.2.2.1) (x.2.2.2.2.2.2.2.2.2.2.2.2.2.2.2.2.2.2.2.2.2.1) (x.2.2.2.2.2.2.2.2.2.2.2.2.2.2.2.2.2.2.2.2.2.2.1) (x.2.2.2.2.2.2.2.2.2.2.2.2.2.2.2.2.2.2.2.2.2.2.2.1) (x.2.2.2.2.2.2.2.2.2.2.2.2.2.2.2.2.2.2.2.2.2.2.2.2.1) (x.2.2.2.2.2.2.2.2.2.2.2.2.2.2.2.2.2.2.2.2.2.2.2.2.2.1) (x.2.2.2.2.2.2.2.2.2.2.2.2.2.2.2.2.2.2.2.2.2.2.2.2.2.2.1) (x.2.2.2.2.2.2.2.2.2.2.2.2.2.2.2.2.2.2.2.2.2.2.2.2.2.2.2.1) (x.2.2.2.2.2.2.2.2.2.2.2.2.2.2.2.2.2.2.2.2.2.2.2.2.2.2.2.2.1) (x.2.2.2.2.2.2.2.2.2.2.2.2.2.2.2.2.2.2.2.2.2.2.2.2.2.2.2.2.2.1) (x.2.2.2.2.2.2.2.2.2.2.2.2.2.2.2.2.2.2.2.2.2.2.2.2.2.2.2.2.2.2.1) (x.2.2.2.2.2.2.2.2.2.2.2.2.2.2.2.2.2.2.2.2.2.2.2.2.2.2.2.2.2.2.2.1) (x.2.2.2.2.2.2.2.2.2.2.2.2.2.2.2.2.2.2.2.2.2.2.2.2.2.2.2.2.2.2.2.2.1) (x.2.2.2.2.2.2.2.2.2.2.2.2.2.2.2.2.2.2.2.2.2.2.2.2.2.2.2.2.2.2.2.2.2.1) (x.2.2.2.2.2.2.2.2.2.2.2.2.2.2.2.2.2.2.2.2.2.2.2.2.2.2.2.2.2.2.2.2.2.2.1) (x.2.2.2.2.2.2.2.2.2.2.2.2.2.2.2.2.2.2.2.2.2.2.2.2.2.2.2.2.2.2.2.2.2.2.2.1) (x.2.2.2.2.2.2.2.2.2.2.2.2.2.2.2.2.2.2.2.2.2.2.2.2.2.2.2.2.2.2.2.2.2.2.2.2.1) (x.2.2.2.2.2.2.2.2.2.2.2.2.2.2.2.2.2.2.2.2.2.2.2.2.2.2.2.2.2.2.2.2.2.2.2.2.2.1) (x.2.2.2.2.2.2.2.2.2.2.2.2.2.2.2.2.2.2.2.2.2.2.2.2.2.2.2.2.2.2.2.2.2.2.2.2.2.2.1) (x.2.2.2.2.2.2.2.2.2.2.2.2.2.2.2.2.2.2.2.2.2.2.2.2.2.2.2.2.2.2.2.2.2.2.2.2.2.2.2.1) (x.2.2.2.2.2.2.2.2.2.2.2.2.2.2.2.2.2.2.2.2.2.2.2.2.2.2.2.2.2.2.2.2.2.2.2.2.2.2.2.2.1) (x.2.2.2.2.2.2.2.2.2.2.2.2.2.2.2.2.2.2.2.2.2.2.2.2.2.2.2.2.2.2.2.2.2.2.2.2.2.2.2.2.2.1) (x.2.2.2.2.2.2.2.2.2.2.2.2.2.2.2.2.2.2.2.2.2.2.2.2.2.2.2.2.2.2.2.2.2.2.2.2.2.2.2.2.2.2.1) (x.2.2.2.2.2.2.2.2.2.2.2.2.2.2.2.2.2.2.2.2.2.2.2.2.2.2.2.2.2.2.2.2.2.2.2.2.2.2.2.2.2.2.2.1) (x.2.2.2.2.2.2.2.2.2.2.2.2.2.2.2.2.2.2.2.2.2.2.2.2.2.2.2.2.2.2.2.2.2.2.2.2.2.2.2.2.2.2.2.2.1) (x.2.2.2.2.2.2.2.2.2.2.2.2.2.2.2.2.2.2.2.2.2.2.2.2.2.2.2.2.2.2.2.2.2.2.2.2.2.2.2.2.2.2.2.2.2.1) (x.2.2.2.2.2.2.2.2.2.2.2.2.2.2.2.2.2.2.2.2.2.2.2.2.2.2.2.2.2.2.2.2.2.2.2.2.2.2.2.2.2.2.2.2.2.2.1) (x.2.2.2.2.2.2.2.2.2.2.2.2.2.2.2.2.2.2.2.2.2.2.2.2.2.2.2.2.2.2.2.2.2.2.2.2.2.2.2.2.2.2.2.2.2.2.2.1) (x.2.2.2.2.2.2.2.2.2.2.2.2.2.2.2.2.2.2.2.2.2.2.2.2.2.2.2.2.2.2.2.2.2.2.2.2.2.2.2.2.2.2.2.2.2.2.2.2)) (by with_unfolding_all exact core) x
end C_law_early
theorem law_early {w : World}
  {p : Program}
  {loose : List PySem.Str}
  {mean : ExcName → Option Value}
  {mg mb : PySem.Str → Option Value}
  {r : RealA}
  {plan : List (List Int)}
  {bl : List Bool}
  {n : Nat}
  (O : RealOk w r plan bl n)
  (OW : OwnOk w r.o plan bl n)
  (hvp : r.o.vp.length = n)
  {dp un : Nat}
  {gd : Option (List Code)}
  {a : Addr}
  {ccd : Value}
  {outer : List Env}
  {A₀ : Around}
  {base h₀ : Heap}
  {L : Addr}
  {m : PySem.Str → Option Value}
  {s : Shared}
  {Q : Flow → Shared → Prop}
  {E : Value → Shared → Prop}
  {z : Addr}
  {nz : Nat}
  {vh ve vh2 vd vf vg pls pes : List Value}
  {ne c6 cP cE : Nat}
  {θ : Nat → Th}
  {S : S}
  {cj cm P Pe : Addr}
  {om : Obj}
  {tm : Tok}
  {ps es : List Int}
  {Rst : List (Addr × Obj)}
  {tps : Array Value}
  (B : Below A₀ base outer h₀)
  (F : Fr h₀ L s.heap m)
  (X : (hd.heap_1 w.params).In h₀)
  (T : Top p loose mean mg mb h₀)
  (N : News h₀ L s.heap (r.led w n z nz vh ve ne θ vh2 vd vf vg c6 Rst))
  (off : r.Apart n z Rst)
  (roff : ∀ q ∈ Rst, q.1 ∉ r.o.adr)
  (St : Both r n z vh ve θ vh2 vd vf vg S)
  (hmP : (P, listOf pls.toArray cP) ∈ Rst)
  (hpl : m (PySem.Str.ofString "listed") = some (.ref P))
  (hps : IntsAre pls ps)
  (hin : ∀ q ∈ ps, 0 ≤ q ∧ q < (n : Int))
  (hlp : ps.length ≤ 10)
  (hmE : (Pe, listOf pes.toArray cE) ∈ Rst)
  (hpe : m (PySem.Str.ofString "early") = some (.ref Pe))
  (hes : IntsAre pes es)
  (hine : ∀ q ∈ es, 0 ≤ q ∧ q < (n : Int))
  (hgt : (427, tabObj tps) ∈ Rst)
  (hmm : (cm, om) ∈ Rst)
  (hom : om.data = .cell (some (.int (n : Int) tm)))
  (hd : dp + 60 < recursionLimit)
  (hu : un + 600 < cLine)
  (ret : ∀ h' tk' m', Fr h₀ L h' m' → GrownAt 427 h' → Q (.ret (.bool true)) { s with heap := h', toks := tk' }) : wpAny (model Pr w) (ktrTop dp un gd (PySem.Str.ofString "law") lawScope L a ccd (lawCl r cj cm) outer) (execs (lawRest 13) (envX (PySem.Str.ofString "law") lawScope L a ccd (lawCl r cj cm))) Q E s :=
  C_law_early.all (w, p, loose, mean, mg, mb, r, plan, bl, n, dp, un, gd, a, ccd, outer, A₀, base, h₀, L, m, s, Q, E, z, nz, vh, ve, vh2, vd, vf, vg, pls, pes, ne, c6, cP, cE, θ, cj, cm, P, Pe, om, tm, ps, es, Rst, tps) S O OW hvp B F X T N off roff St hmP hpl hps hin hlp hmE hpe hes hine hgt hmm hom hd hu ret
end Mine
end
end
theorem Mine.rs_o7 {w : PySem.World} {p : PySem.Program} {A : PySem.Around} {q : PySem.Pos} {e : PySem.Env} {Q : PySem.Flow → PySem.Shared → Prop} {E : PySem.Value → PySem.Shared → Prop} {s : PySem.Shared} (h : PySem.wpAny (PySem.model p w) A (PySem.exec (PySem.Stmt.Pass q) e) Q E s) : PySem.wpAny (PySem.model p w) A (PySem.exec (PySem.Stmt.Pass q) e) Q E s := by
  w_top off
  first | (walk1; exact h) | exact h
theorem Mine.rs_Hold : True := by
  w_top off
  trivial
section
open PySem PySem.W PyProof.Rows PySem.Calls
namespace Mine
theorem hold_ex {w : World} {p : Program} {loose : List PySem.Str} {mean : ExcName → Option Value} {mg mb : PySem.Str → Option Value}
  {dp un : Nat} {gd : Option (List Code)} {cn : PySem.Str} {cs : Scope} {a : Addr} {ccd : Value} {cl : List (PySem.Str × Addr)} {outer : List Env} {A₀ : Around} {base h₀ : Heap} {L : Addr} {m : PySem.Str → Option Value} {s : Shared}
  {Q E : Value → Shared → Prop} {R : List (Addr × Obj)}
  {xc x d : Addr} {t1 t2 t3 t4 t5 t6 t7 t8 tn tc : Tok} {num cnt : Int} {bl : Value} {wk it : Addr} {dest freed : Bool}
  (B : Below A₀ base outer h₀) (F : Fr h₀ L s.heap m) (X : (hd.heap_1 w.params).In h₀) (T : Top p loose mean mg mb h₀) (hk : cs.kind = .function)
  (N : News h₀ L s.heap ([(x, instObj 78 d), (d, thingD w.params t1 t2 t3 t4 t5 t6 t7 t8 tn tc num cnt bl wk dest freed it)] ++ R))
  (hoff : AllOff R [(x, instObj 78 d), (d, thingD w.params t1 t2 t3 t4 t5 t6 t7 t8 tn tc num cnt bl wk dest freed it)])
  (e1 : @Ne Nat x d) (hc0 : 0 ≤ cnt) (hc1 : cnt < 100)
  (hd : dp + 3 < recursionLimit) (hu : un + 24 < cLine)
  (ret : ∀ h' tk' tc', Fr h₀ L h' m → News h₀ L h' ([(x, instObj 78 d), (d, thingD w.params t1 t2 t3 t4 t5 t6 t7 t8 tn tc' num (cnt + 1) bl wk dest freed it)] ++ R) → Q .none { s with heap := h', toks := tk' }) :
  wpAny (model PySem.Challenge.rw_qz0092_01.row.prog w) (ktrTop dp un gd cn cs L a ccd cl outer) (call (.ref 288) [.ref xc, .ref x]) Q E s := by
  revert X; k_fill; intro X
  refine wpAny_call ?_
  k_dflt (first | (refine' Mine.code_defR ?k1 ?k2 ?k3 ?k4 ?k5 ?kA ?kF ?kK ?k6 ?k7 ?k8 ?k9 ?kB ?kO ?_ ?c2 ?c3 ?c4 ?c5; (case kA => exact rfl); (case kF => exact rfl); (case kK => assumption); (case k1 => k_asm); (case k2 => k_asm); (case k3 => k_asm); (case k4 => k_asm); (case k5 => k_asm); (case k6 => k_is); (case k7 => k_is); (case k8 => ktr_room); (case k9 => exact BindsTo.of_eq rfl); (case c5 => decide); (case kB => exact locs rfl); (case kO => assumption); (case c2 => exact rfl); (case c3 => exact rfl); (case c4 => exact rfl); k_whole; intro g' L' h' HR' FG' F' N' B' X' T' l1; (try k_lt l1); (try dsimp only); (have lL := Mine.lt_frames FG' F'); (try k_fold)) | (refine' Mine.code_defRC ?k1 ?k2 ?k3 ?k4 ?k5 ?kA ?kF ?kK ?k6 ?k7 ?k8 ?k9 ?kB ?kD ?kO ?_ ?c2 ?c3 ?c4; (case kA => exact rfl); (case kF => exact rfl); (case kK => assumption); (case k1 => k_asm); (case k2 => k_asm); (case k3 => k_asm); (case k4 => k_asm); (case k5 => k_asm); (case k6 => k_is); (case k7 => k_is); (case k8 => ktr_room); (case k9 => exact BindsTo.of_eq rfl); (case kB => exact rfl); (case kD => decide +kernel); (case kO => assumption); (case c2 => exact rfl); (case c3 => exact rfl); (case c4 => exact rfl); k_whole; intro g' L' h' tk' cells' HR' FG' F' N' Y' B' X' T' l1; (try k_lt l1); k_cells Y'; (try simp only [List.cons_append, List.nil_append] at N'); (try dsimp only); (try k_lift B'); (have lL := Mine.lt_frames FG' F'); (try k_fold)) | fail "no entry")
  repeat' (first | (k_unfold; (try dsimp only)) | walk1 | (dsimp only; walk1) | fail "no step")
  rename News h₀ L _ R => NR
  rename News h₀ L _ (_ :: _) => NE
  exact ret _ _ _ (by assumption) (news_app (news_sub NE (by lcg_sub)) NR)
theorem bless_ex {w : World} {p : Program} {loose : List PySem.Str} {mean : ExcName → Option Value} {mg mb : PySem.Str → Option Value}
  {dp un : Nat} {gd : Option (List Code)} {cn : PySem.Str} {cs : Scope} {a : Addr} {ccd : Value} {cl : List (PySem.Str × Addr)} {outer : List Env} {A₀ : Around} {base h₀ : Heap} {L : Addr} {m : PySem.Str → Option Value} {s : Shared}
  {Q E : Value → Shared → Prop} {R : List (Addr × Obj)}
  {x d : Addr} {t1 t2 t3 t4 t5 t6 t7 t8 tn tc tp : Tok} {num cnt : Int} {bl : Value} {wk it : Addr} {dest freed : Bool} {str : PySem.Str}
  (B : Below A₀ base outer h₀) (F : Fr h₀ L s.heap m) (X : (hd.heap_1 w.params).In h₀) (T : Top p loose mean mg mb h₀) (hk : cs.kind = .function)
  (N : News h₀ L s.heap ([(x, instObj 78 d), (d, thingD w.params t1 t2 t3 t4 t5 t6 t7 t8 tn tc num cnt bl wk dest freed it)] ++ R))
  (hoff : AllOff R [(x, instObj 78 d), (d, thingD w.params t1 t2 t3 t4 t5 t6 t7 t8 tn tc num cnt bl wk dest freed it)])
  (e1 : @Ne Nat x d)
  (hd : dp + 3 < recursionLimit) (hu : un + 24 < cLine)
  (ret : ∀ h' tk', Fr h₀ L h' m → News h₀ L h' ([(x, instObj 78 d), (d, thingD w.params t1 t2 t3 t4 t5 t6 t7 t8 tn tc num cnt (.str str tp) wk dest freed it)] ++ R) → Q .none { s with heap := h', toks := tk' }) :
  wpAny (model PySem.Challenge.rw_qz0092_01.row.prog w) (ktrTop dp un gd cn cs L a ccd cl outer) (call (.ref 370) [.ref x, .str str tp]) Q E s := by
  revert X; k_fill; intro X
  refine wpAny_call ?_
  k_dflt (first | (refine' Mine.code_defR ?k1 ?k2 ?k3 ?k4 ?k5 ?kA ?kF ?kK ?k6 ?k7 ?k8 ?k9 ?kB ?kO ?_ ?c2 ?c3 ?c4 ?c5; (case kA => exact rfl); (case kF => exact rfl); (case kK => assumption); (case k1 => k_asm); (case k2 => k_asm); (case k3 => k_asm); (case k4 => k_asm); (case k5 => k_asm); (case k6 => k_is); (case k7 => k_is); (case k8 => ktr_room); (case k9 => exact BindsTo.of_eq rfl); (case c5 => decide); (case kB => exact locs rfl); (case kO => assumption); (case c2 => exact rfl); (case c3 => exact rfl); (case c4 => exact rfl); k_whole; intro g' L' h' HR' FG' F' N' B' X' T' l1; (try k_lt l1); (try dsimp only); (have lL := Mine.lt_frames FG' F'); (try k_fold)) | (refine' Mine.code_defRC ?k1 ?k2 ?k3 ?k4 ?k5 ?kA ?kF ?kK ?k6 ?k7 ?k8 ?k9 ?kB ?kD ?kO ?_ ?c2 ?c3 ?c4; (case kA => exact rfl); (case kF => exact rfl); (case kK => assumption); (case k1 => k_asm); (case k2 => k_asm); (case k3 => k_asm); (case k4 => k_asm); (case k5 => k_asm); (case k6 => k_is); (case k7 => k_is); (case k8 => ktr_room); (case k9 => exact BindsTo.of_eq rfl); (case kB => exact rfl); (case kD => decide +kernel); (case kO => assumption); (case c2 => exact rfl); (case c3 => exact rfl); (case c4 => exact rfl); k_whole; intro g' L' h' tk' cells' HR' FG' F' N' Y' B' X' T' l1; (try k_lt l1); k_cells Y'; (try simp only [List.cons_append, List.nil_append] at N'); (try dsimp only); (try k_lift B'); (have lL := Mine.lt_frames FG' F'); (try k_fold)) | fail "no entry")
  repeat' (first | (k_unfold; (try dsimp only)) | walk1 | (dsimp only; walk1) | fail "no step")
  rename News h₀ L _ R => NR
  rename News h₀ L _ (_ :: _) => NE
  exact ret _ _ (by assumption) (news_app (news_sub NE (by lcg_sub)) NR)
end Mine
end
theorem Mine.rs_LawHold : True := by
  w_top off
  trivial
section
open PySem PySem.W PyProof.Rows PySem.Calls LSm
namespace Mine
noncomputable def BlessOk (bl : List Bool) (bv : Nat → Value) (j : Nat) : Prop := (bl.getD j false = true → ∃ t, bv j = .str (PySem.Str.ofString "P") t) ∧ (bl.getD j false = false → bv j = .none)
/-- the things while law holds and blesses them, place by place -/
noncomputable def HoldInv (r : RealA) (bl : List Bool) (n i : Nat) (θ : Nat → Th) (bv : Nat → Value) : Prop :=
  ∀ j, j < n → (θ j).wk = r.wk j ∧ (θ j).it = r.it j ∧ (θ j).dest = false ∧ (θ j).freed = false ∧ (j < i → (θ j).cnt = 1 ∧ BlessOk bl bv j) ∧ (i ≤ j → (θ j).cnt = 0 ∧ bv j = .none)
theorem HoldInv.step {r : RealA} {bl : List Bool} {n i : Nat} {θ : Nat → Th} {bv : Nat → Value} (h : HoldInv r bl n i θ bv) (hi : i < n) {t : Th} {b : Value} (e1 : t.cnt = 1) (e2 : t.dest = false) (e3 : t.wk = r.wk i) (e4 : t.it = r.it i) (e5 : t.freed = false) (hb : (bl.getD i false = true → ∃ t, b = .str (PySem.Str.ofString "P") t) ∧ (bl.getD i false = false → b = .none)) :
    HoldInv r bl n (i + 1) (upd θ i t) (fun j => if j = i then b else bv j) := fun j hj => by
  by_cases e : j = i
  · subst e
    refine ⟨by rw [upd_self, e3], by rw [upd_self, e4], by rw [upd_self, e2], by rw [upd_self, e5], fun _ => ⟨by rw [upd_self, e1], ?_⟩, fun h => absurd h (by omega)⟩
    unfold BlessOk
    simp only [if_true]
    exact hb
  · obtain ⟨a1, a2, a3, a4, a5, a6⟩ := h j hj
    rw [upd_ne e]
    refine ⟨a1, a2, a3, a4, fun h => ⟨(a5 (by omega)).1, ?_⟩, fun h => ⟨(a6 (by omega)).1, by show (if _ then _ else _) = _; rw [if_neg e]; exact (a6 (by omega)).2⟩⟩
    unfold BlessOk
    simp only [if_neg e]
    exact (a5 (by omega)).2
theorem led_turn {w : World} {r : RealA} {n i : Nat} {z : Addr} {nz : Nat} {vh ve : List Value} {ne : Nat} {θ : Nat → Th} {vh2 vd vf vg : List Value} {c6 : Nat} {Rst : List (Addr × Obj)} {bv : Nat → Value} {b : Value} {t : Th}
    (hA : ∀ q ∈ r.ex w n z #[] nz vh ve ne, q.1 ≠ r.d i) (hB : ∀ j, j < n → ∀ q ∈ r.roL j, q.1 ≠ r.d i) (hC : ∀ q ∈ r.own5 vh2 vd vf vg c6 ++ Rst, q.1 ≠ r.d i) (hd : ∀ j, j < n → j ≠ i → @Ne Nat (r.d j) (r.d i)) :
    ∀ q ∈ RealA.led { r with bv := fun j => if j = i then b else bv j } w n z nz vh ve ne (upd θ i t) vh2 vd vf vg c6 Rst, q = (r.d i, t.obj w.params ((i : Int) + 1) b) ∨ (q ∈ RealA.led { r with bv := bv } w n z nz vh ve ne θ vh2 vd vf vg c6 Rst ∧ q.1 ≠ r.d i) := fun q hq => by
  rcases List.mem_append.mp hq with h1 | h1
  · rcases List.mem_append.mp h1 with h2 | h2
    · exact .inr ⟨List.mem_append_left _ (List.mem_append_left _ h2), hA q h2⟩
    · obtain ⟨j, hj, h3 | h3⟩ := RealA.ths_cases h2
      · by_cases e : j = i
        · subst e
          refine .inl (h3.trans ?_)
          show (r.d j, (upd θ j t j).obj w.params ((j : Int) + 1) (if j = j then b else bv j)) = _
          rw [upd_self, if_pos rfl]
        · have e2 : q = ({ r with bv := bv } : RealA).thD w θ j := h3.trans (by
            show (r.d j, (upd θ i t j).obj w.params ((j : Int) + 1) (if j = i then b else bv j)) = (r.d j, (θ j).obj w.params ((j : Int) + 1) (bv j))
            rw [upd_ne e, if_neg e])
          refine .inr ⟨List.mem_append_left _ (List.mem_append_right _ ?_), ?_⟩
          · rw [e2]; exact RealA.ths_d (r := { r with bv := bv }) hj
          · rw [e2]; exact hd j hj e
      · exact .inr ⟨List.mem_append_left _ (List.mem_append_right _ (RealA.ths_ro (r := { r with bv := bv }) hj h3)), hB j hj q h3⟩
  · exact .inr ⟨List.mem_append_right _ h1, hC q h1⟩
namespace C_law_hold
noncomputable abbrev XX : Type := (World) × (Program) × (List PySem.Str) × (ExcName → Option Value) × (PySem.Str → Option Value) × (PySem.Str → Option Value) × (RealA) × (List (List Int)) × (List Bool) × (Nat) × (Nat) × (Nat) × (Option (List Code)) × (Addr) × (Value) × (List Env) × (Around) × (Heap) × (Heap) × (Addr) × (PySem.Str → Option Value) × (Shared) × (Flow → Shared → Prop) × (Value → Shared → Prop) × (Addr) × (Nat) × (List Value) × (List Value) × (List Value) × (List Value) × (List Value) × (List Value) × (List Value) × (List Value) × (Nat) × (Nat) × (Nat) × (Nat) × (Nat → Th) × (Addr) × (Addr) × (Addr) × (Addr) × (Obj) × (Tok) × (List Int) × (List Int) × (List (Addr × Obj)) × (Array Value)
noncomputable def StX (w : World) (p : Program) (loose : List PySem.Str) (mean : ExcName → Option Value) (mg : PySem.Str → Option Value) (mb : PySem.Str → Option Value) (r : RealA) (plan : List (List Int)) (bl : List Bool) (n : Nat) (dp : Nat) (un : Nat) (gd : Option (List Code)) (a : Addr) (ccd : Value) (outer : List Env) (A₀ : Around) (base : Heap) (h₀ : Heap) (L : Addr) (m : PySem.Str → Option Value) (s : Shared) (Q : Flow → Shared → Prop) (E : Value → Shared → Prop) (z : Addr) (nz : Nat) (vh : List Value) (ve : List Value) (vh2 : List Value) (vd : List Value) (vf : List Value) (vg : List Value) (pls : List Value) (pes : List Value) (ne : Nat) (c6 : Nat) (cP : Nat) (cE : Nat) (θ : Nat → Th) (cj : Addr) (cm : Addr) (P : Addr) (Pe : Addr) (om : Obj) (tm : Tok) (ps : List Int) (es : List Int) (Rst : List (Addr × Obj)) (tps : Array Value) : Prop :=
  ∀ (S : S) (HO : ∀ bv : Nat → Value, (∀ j, j < n → BlessOk bl bv j) → RealOk w { r with bv := bv } plan bl n) (OW : OwnOk w r.o plan bl n) (hvp : r.o.vp.length = n) (B : Below A₀ base outer h₀) (F : Fr h₀ L s.heap m) (X : (hd.heap_1 w.params).In h₀) (T : Top p loose mean mg mb h₀) (N : News h₀ L s.heap (r.led w n z nz vh ve ne θ vh2 vd vf vg c6 Rst)) (off : r.Apart n z Rst) (roff : ∀ q ∈ Rst, q.1 ∉ r.o.adr) (g1 : BoolsAre vh S.held) (g2 : IntsAre ve S.log) (g3 : BoolsAre vh2 S.held) (g4 : BoolsAre vd S.done) (g5 : BoolsAre vf S.freed) (g6 : IntsAre vg S.log) (gl : S.Len n) (gz : r.Zoff n z) (hS0 : ∀ j, j < n → S.held.getD j false = true ∧ S.done.getD j false = false ∧ S.freed.getD j false = false) (hI0 : HoldInv r bl n 0 θ r.bv) (hmP : (P, listOf pls.toArray cP) ∈ Rst) (hpl : m (PySem.Str.ofString "listed") = some (.ref P)) (hps : IntsAre pls ps) (hin : ∀ q ∈ ps, 0 ≤ q ∧ q < (n : Int)) (hlp : ps.length ≤ 10) (hmE : (Pe, listOf pes.toArray cE) ∈ Rst) (hpe : m (PySem.Str.ofString "early") = some (.ref Pe)) (hes : IntsAre pes es) (hine : ∀ q ∈ es, 0 ≤ q ∧ q < (n : Int)) (hgt : (427, tabObj tps) ∈ Rst) (hmm : (cm, om) ∈ Rst) (hom : om.data = .cell (some (.int (n : Int) tm))) (hd : dp + 60 < recursionLimit) (hu : un + 600 < cLine) (ret : ∀ h' tk' m', Fr h₀ L h' m' → GrownAt 427 h' → Q (.ret (.bool true)) { s with heap := h', toks := tk' }), wpAny (model Pr w) (ktrTop dp un gd (PySem.Str.ofString "law") lawScope L a ccd (lawCl r cj cm) outer) (execs (lawRest 12) (envX (PySem.Str.ofString "law") lawScope L a ccd (lawCl r cj cm))) Q E s
theorem neX : Nonempty XX := by
  refine ⟨?_⟩
  repeat' (first | exact default | exact aWorld 1 | constructor | intro _)
noncomputable def cX : XX := @Classical.epsilon XX neX fun x => ¬ StX (x.1) (x.2.1) (x.2.2.1) (x.2.2.2.1) (x.2.2.2.2.1) (x.2.2.2.2.2.1) (x.2.2.2.2.2.2.1) (x.2.2.2.2.2.2.2.1) (x.2.2.2.2.2.2.2.2.1) (x.2.2.2.2.2.2.2.2.2.1) (x.2.2.2.2.2.2.2.2.2.2.1) (x.2.2.2.2.2.2.2.2.2.2.2.1) (x.2.2.2.2.2.2.2.2.2.2.2.2.1) (x.2.2.2.2.2.2.2.2.2.2.2.2.2.1) (x.2.2.2.2.2.2.2.2.2.2.2.2.2.2.1) (x.2.2.2.2.2.2.2.2.2.2.2.2.2.2.2.1) (x.2.2.2.2.2.2.2.2.2.2.2.2.2.2.2.2.1) (x.2.2.2.2.2.2.2.2.2.2.2.2.2.2.2.2.2.1) (x.2.2.2.2.2.2.2.2.2.2.2.2.2.2.2.2.2.2.1) (x.2.2.2.2.2.2.2.2.2.2.2.2.2.2.2.2.2.2.2.1) (x.2.2.2.2.2.2.2.2.2.2.2.2.2.2.2.2.2.2.2.2.1) (x.2.2.2.2.2.2.2.2.2.2.2.2.2.2.2.2.2.2.2.2.2.1) (x.2.2.2.2.2.2.2.2.2.2.2.2.2.2.2.2.2.2.2.2.2.2.1) (x.2.2.2.2.2.2.2.2.2.2.2.2.2.2.2.2.2.2.2.2.2.2.2.1) (x.2.2.2.2.2.2.2.2.2.2.2.2.2.2.2.2.2.2.2.2.2.2.2.2.1) (x.2.2.2.2.2.2.2.2.2.2.2.2.2.2.2.2.2.2.2.2.2.2.2.2.2.1) (x.2.2.2.2.2.2.2.2.2.2.2.2.2.2.2.2.2.2.2.2.2.2.2.2.2.2.1) (x.2.2.2.2.2.2.2.2.2.2.2.2.2.2.2.2.2.2.2.2.2.2.2.2.2.2.2.1) (x.2.2.2.2.2.2.2.2.2.2.2.2.2.2.2.2.2.2.2.2.2.2.2.2.2.2.2.2.1) (x.2.2.2.2.2.2.2.2.2.2.2.2.2.2.2.2.2.2.2.2.2.2.2.2.2.2.2.2.2.1) (x.2.2.2.2.2.2.2.2.2.2.2.2.2.2.2.2.2.2.2.2.2.2.2.2.2.2.2.2.2.2.1) (x.2.2.2.2.2.2.2.2.2.2.2.2.2.2.2.2.2.2.2.2.2.2.2.2.2.2.2.2.2.2.2.1) (x.2.2.2.2.2.2.2.2.2.2.2.2.2.2.2.2.2.2.2.2.2.2.2.2.2.2.2.2.2.2.2.2.1) (x.2.2.2.2.2.2.2.2.2.2.2.2.2.2.2.2.2.2.2.2.2.2.2.2.2.2.2.2.2.2.2.2.2.1) (x.2.2.2.2.2.2.2.2.2.2.2.2.2.2.2.2.2.2.2.2.2.2.2.2.2.2.2.2.2.2.2.2.2.2.1) (x.2.2.2.2.2.2.2.2.2.2.2.2.2.2.2.2.2.2.2.2.2.2.2.2.2.2.2.2.2.2.2.2.2.2.2.1) (x.2.2.2.2.2.2.2.2.2.2.2.2.2.2.2.2.2.2.2.2.2.2.2.2.2.2.2.2.2.2.2.2.2.2.2.2.1) (x.2.2.2.2.2.2.2.2.2.2.2.2.2.2.2.2.2.2.2.2.2.2.2.2.2.2.2.2.2.2.2.2.2.2.2.2.2.1) (x.2.2.2.2.2.2.2.2.2.2.2.2.2.2.2.2.2.2.2.2.2.2.2.2.2.2.2.2.2.2.2.2.2.2.2.2.2.2.1) (x.2.2.2.2.2.2.2.2.2.2.2.2.2.2.2.2.2.2.2.2.2.2.2.2.2.2.2.2.2.2.2.2.2.2.2.2.2.2.2.1) (x.2.2.2.2.2.2.2.2.2.2.2.2.2.2.2.2.2.2.2.2.2.2.2.2.2.2.2.2.2.2.2.2.2.2.2.2.2.2.2.2.1) (x.2.2.2.2.2.2.2.2.2.2.2.2.2.2.2.2.2.2.2.2.2.2.2.2.2.2.2.2.2.2.2.2.2.2.2.2.2.2.2.2.2.1) (x.2.2.2.2.2.2.2.2.2.2.2.2.2.2.2.2.2.2.2.2.2.2.2.2.2.2.2.2.2.2.2.2.2.2.2.2.2.2.2.2.2.2.1) (x.2.2.2.2.2.2.2.2.2.2.2.2.2.2.2.2.2.2.2.2.2.2.2.2.2.2.2.2.2.2.2.2.2.2.2.2.2.2.2.2.2.2.2.1) (x.2.2.2.2.2.2.2.2.2.2.2.2.2.2.2.2.2.2.2.2.2.2.2.2.2.2.2.2.2.2.2.2.2.2.2.2.2.2.2.2.2.2.2.2.1) (x.2.2.2.2.2.2.2.2.2.2.2.2.2.2.2.2.2.2.2.2.2.2.2.2.2.2.2.2.2.2.2.2.2.2.2.2.2.2.2.2.2.2.2.2.2.1) (x.2.2.2.2.2.2.2.2.2.2.2.2.2.2.2.2.2.2.2.2.2.2.2.2.2.2.2.2.2.2.2.2.2.2.2.2.2.2.2.2.2.2.2.2.2.2.1) (x.2.2.2.2.2.2.2.2.2.2.2.2.2.2.2.2.2.2.2.2.2.2.2.2.2.2.2.2.2.2.2.2.2.2.2.2.2.2.2.2.2.2.2.2.2.2.2.1) (x.2.2.2.2.2.2.2.2.2.2.2.2.2.2.2.2.2.2.2.2.2.2.2.2.2.2.2.2.2.2.2.2.2.2.2.2.2.2.2.2.2.2.2.2.2.2.2.2)
@[irreducible] noncomputable def w := cX.1
@[irreducible] noncomputable def p := cX.2.1
@[irreducible] noncomputable def loose := cX.2.2.1
@[irreducible] noncomputable def mean := cX.2.2.2.1
@[irreducible] noncomputable def mg := cX.2.2.2.2.1
@[irreducible] noncomputable def mb := cX.2.2.2.2.2.1
@[irreducible] noncomputable def r := cX.2.2.2.2.2.2.1
@[irreducible] noncomputable def plan := cX.2.2.2.2.2.2.2.1
@[irreducible] noncomputable def bl := cX.2.2.2.2.2.2.2.2.1
@[irreducible] noncomputable def n := cX.2.2.2.2.2.2.2.2.2.1
@[irreducible] noncomputable def dp := cX.2.2.2.2.2.2.2.2.2.2.1
@[irreducible] noncomputable def un := cX.2.2.2.2.2.2.2.2.2.2.2.1
@[irreducible] noncomputable def gd := cX.2.2.2.2.2.2.2.2.2.2.2.2.1
@[irreducible] noncomputable def a := cX.2.2.2.2.2.2.2.2.2.2.2.2.2.1
@[irreducible] noncomputable def ccd := cX.2.2.2.2.2.2.2.2.2.2.2.2.2.2.1
@[irreducible] noncomputable def outer := cX.2.2.2.2.2.2.2.2.2.2.2.2.2.2.2.1
@[irreducible] noncomputable def A₀ := cX.2.2.2.2.2.2.2.2.2.2.2.2.2.2.2.2.1
@[irreducible] noncomputable def base := cX.2.2.2.2.2.2.2.2.2.2.2.2.2.2.2.2.2.1
@[irreducible] noncomputable def h₀ := cX.2.2.2.2.2.2.2.2.2.2.2.2.2.2.2.2.2.2.1
@[irreducible] noncomputable def L := cX.2.2.2.2.2.2.2.2.2.2.2.2.2.2.2.2.2.2.2.1
@[irreducible] noncomputable def m := cX.2.2.2.2.2.2.2.2.2.2.2.2.2.2.2.2.2.2.2.2.1
@[irreducible] noncomputable def s := cX.2.2.2.2.2.2.2.2.2.2.2.2.2.2.2.2.2.2.2.2.2.1
@[irreducible] noncomputable def Q := cX.2.2.2.2.2.2.2.2.2.2.2.2.2.2.2.2.2.2.2.2.2.2.1
@[irreducible] noncomputable def E := cX.2.2.2.2.2.2.2.2.2.2.2.2.2.2.2.2.2.2.2.2.2.2.2.1
@[irreducible] noncomputable def z := cX.2.2.2.2.2.2.2.2.2.2.2.2.2.2.2.2.2.2.2.2.2.2.2.2.1
@[irreducible] noncomputable def nz := cX.2.2.2.2.2.2.2.2.2.2.2.2.2.2.2.2.2.2.2.2.2.2.2.2.2.1
@[irreducible] noncomputable def vh := cX.2.2.2.2.2.2.2.2.2.2.2.2.2.2.2.2.2.2.2.2.2.2.2.2.2.2.1
@[irreducible] noncomputable def ve := cX.2.2.2.2.2.2.2.2.2.2.2.2.2.2.2.2.2.2.2.2.2.2.2.2.2.2.2.1
@[irreducible] noncomputable def vh2 := cX.2.2.2.2.2.2.2.2.2.2.2.2.2.2.2.2.2.2.2.2.2.2.2.2.2.2.2.2.1
@[irreducible] noncomputable def vd := cX.2.2.2.2.2.2.2.2.2.2.2.2.2.2.2.2.2.2.2.2.2.2.2.2.2.2.2.2.2.1
@[irreducible] noncomputable def vf := cX.2.2.2.2.2.2.2.2.2.2.2.2.2.2.2.2.2.2.2.2.2.2.2.2.2.2.2.2.2.2.1
@[irreducible] noncomputable def vg := cX.2.2.2.2.2.2.2.2.2.2.2.2.2.2.2.2.2.2.2.2.2.2.2.2.2.2.2.2.2.2.2.1
@[irreducible] noncomputable def pls := cX.2.2.2.2.2.2.2.2.2.2.2.2.2.2.2.2.2.2.2.2.2.2.2.2.2.2.2.2.2.2.2.2.1
@[irreducible] noncomputable def pes := cX.2.2.2.2.2.2.2.2.2.2.2.2.2.2.2.2.2.2.2.2.2.2.2.2.2.2.2.2.2.2.2.2.2.1
@[irreducible] noncomputable def ne := cX.2.2.2.2.2.2.2.2.2.2.2.2.2.2.2.2.2.2.2.2.2.2.2.2.2.2.2.2.2.2.2.2.2.2.1
@[irreducible] noncomputable def c6 := cX.2.2.2.2.2.2.2.2.2.2.2.2.2.2.2.2.2.2.2.2.2.2.2.2.2.2.2.2.2.2.2.2.2.2.2.1
@[irreducible] noncomputable def cP := cX.2.2.2.2.2.2.2.2.2.2.2.2.2.2.2.2.2.2.2.2.2.2.2.2.2.2.2.2.2.2.2.2.2.2.2.2.1
@[irreducible] noncomputable def cE := cX.2.2.2.2.2.2.2.2.2.2.2.2.2.2.2.2.2.2.2.2.2.2.2.2.2.2.2.2.2.2.2.2.2.2.2.2.2.1
@[irreducible] noncomputable def θ := cX.2.2.2.2.2.2.2.2.2.2.2.2.2.2.2.2.2.2.2.2.2.2.2.2.2.2.2.2.2.2.2.2.2.2.2.2.2.2.1
@[irreducible] noncomputable def cj := cX.2.2.2.2.2.2.2.2.2.2.2.2.2.2.2.2.2.2.2.2.2.2.2.2.2.2.2.2.2.2.2.2.2.2.2.2.2.2.2.1
@[irreducible] noncomputable def cm := cX.2.2.2.2.2.2.2.2.2.2.2.2.2.2.2.2.2.2.2.2.2.2.2.2.2.2.2.2.2.2.2.2.2.2.2.2.2.2.2.2.1
@[irreducible] noncomputable def P := cX.2.2.2.2.2.2.2.2.2.2.2.2.2.2.2.2.2.2.2.2.2.2.2.2.2.2.2.2.2.2.2.2.2.2.2.2.2.2.2.2.2.1
@[irreducible] noncomputable def Pe := cX.2.2.2.2.2.2.2.2.2.2.2.2.2.2.2.2.2.2.2.2.2.2.2.2.2.2.2.2.2.2.2.2.2.2.2.2.2.2.2.2.2.2.1
@[irreducible] noncomputable def om := cX.2.2.2.2.2.2.2.2.2.2.2.2.2.2.2.2.2.2.2.2.2.2.2.2.2.2.2.2.2.2.2.2.2.2.2.2.2.2.2.2.2.2.2.1
@[irreducible] noncomputable def tm := cX.2.2.2.2.2.2.2.2.2.2.2.2.2.2.2.2.2.2.2.2.2.2.2.2.2.2.2.2.2.2.2.2.2.2.2.2.2.2.2.2.2.2.2.2.1
@[irreducible] noncomputable def ps := cX.2.2.2.2.2.2.2.2.2.2.2.2.2.2.2.2.2.2.2.2.2.2.2.2.2.2.2.2.2.2.2.2.2.2.2.2.2.2.2.2.2.2.2.2.2.1
@[irreducible] noncomputable def es := cX.2.2.2.2.2.2.2.2.2.2.2.2.2.2.2.2.2.2.2.2.2.2.2.2.2.2.2.2.2.2.2.2.2.2.2.2.2.2.2.2.2.2.2.2.2.2.1
@[irreducible] noncomputable def Rst := cX.2.2.2.2.2.2.2.2.2.2.2.2.2.2.2.2.2.2.2.2.2.2.2.2.2.2.2.2.2.2.2.2.2.2.2.2.2.2.2.2.2.2.2.2.2.2.2.1
@[irreducible] noncomputable def tps := cX.2.2.2.2.2.2.2.2.2.2.2.2.2.2.2.2.2.2.2.2.2.2.2.2.2.2.2.2.2.2.2.2.2.2.2.2.2.2.2.2.2.2.2.2.2.2.2.2
theorem core : StX w p loose mean mg mb r plan bl n dp un gd a ccd outer A₀ base h₀ L m s Q E z nz vh ve vh2 vd vf vg pls pes ne c6 cP cE θ cj cm P Pe om tm ps es Rst tps := by
  unfold StX
  intro S HO OW hvp B F X T N off roff g1 g2 g3 g4 g5 g6 gl gz hS0 hI0 hmP hpl hps hin hlp hmE hpe hes hine hgt hmm hom hd hu ret
  unfold Pr
  refine wpAny_noRaise ?_
  rw [show lawRest 12 = _ :: lawRest 13 from rfl]
  rw [show lawScope = { kind := _, names := _, isGenerator := _, isCoroutine := _, more := _ } from rfl]
  revert X; k_fill; intro X
  have O' := HO (fun j => if bl.getD j false = true then .str (PySem.Str.ofString "P") 0 else .none) (fun j _ => ⟨fun e => ⟨0, by show (if _ then _ else _) = _; rw [if_pos e]⟩, fun e => by show (if _ then _ else _) = _; rw [if_neg (by rw [e]; decide)]⟩)
  have hn5 : n ≤ 5 := O'.small
  have ecc : r.occ.data = .cell (some (.ref r.xc)) := O'.ecc
  have ect : r.oct.data = .cell (some (.ref r.tl)) := O'.ect
  have eco : r.oco.data = .cell (some (.ref r.o.od)) := O'.eco
  have ecm := hom
  have hdict := OW.dict
  have dadr : ∀ j, j < n → r.d j ∉ r.adr := O'.dadr
  have dne : ∀ i j, i < n → j < n → i ≠ j → @Ne Nat (r.d i) (r.d j) := O'.dne
  have dro : ∀ i j, i < n → j < n → @Ne Nat (r.d i) (r.x j) ∧ @Ne Nat (r.d i) (r.wk j) ∧ @Ne Nat (r.d i) (r.it j) ∧ @Ne Nat (r.d i) (r.q j) := O'.dro
  have Nw := fun _ : Unit => N
  have N1 : News h₀ L s.heap [(cm, om)] := fun q hq => by
    rw [List.mem_singleton.mp hq]; exact N _ (List.mem_append_right _ (List.mem_append_right _ hmm))
  clear N
  repeat' ((fail_if_success (with_reducible show wpAny _ _ (exec (Stmt.For _ _ _ _ _) _) _ _ _)); (first | (k_unfold; (try dsimp only)) | walk1 | (dsimp only; walk1) | fail "no step"))
  (with_unfolding_all refine' For_invVF F ?kk1 ?kk2 ?_)
  case kk1 => exact rfl
  case kk2 => exact rfl
  repeat' ((fail_if_success (with_reducible show wpAny _ _ (pyIter _) _ _ _)); (first | (k_unfold; (try dsimp only)) | walk1 | (dsimp only; walk1) | fail "no step"))
  rename IsRange _ _ _ _ _ _ _ _ => hRg
  rename ∀ b o, Heap.get? _ b = some o → Heap.get? _ b = some o => kp0
  rename Fr _ _ _ _ => F2
  (repeat ((rename News _ _ _ _ => N2x); clear N2x))
  refine iter_rangeN (n := n) (R := fun i (_ : Unit) nx => ∃ θ bv, nx = RealA.led { r with bv := bv } w n z nz vh ve ne θ vh2 vd vf vg c6 Rst ∧ HoldInv r bl n i θ bv) (fun _ _ => ()) () (by rfl) hRg (rng_small hn5) (rng_size hn5) F2 (fun q hq => ⟨kp0 _ _ ((Nw ()) q hq).1, ((Nw ()) q hq).2⟩) ⟨θ, r.bv, rfl, hI0⟩ ?_ ?_
  · rintro i t _ nx I it h tk hi ⟨θ, bv, rfl, hI⟩ hoffI F3 N3
    obtain ⟨j1, j2, j3, j4, _, j6⟩ := hI i hi
    obtain ⟨j7, j8⟩ := j6 (Nat.le_refl _)
    have b0 : (0 : Int) ≤ (i : Int) := by omega
    have b1 : (i : Int) < 100 := by omega
    have hit : (r.vt n)[((i : Int)).toNat]? = some (.ref (r.x i)) := by show (r.vt n)[i]? = _; simp only [List.getElem?_map, List.getElem?_range hi, Option.map_some]
    have hxb : r.o.vb[((i : Int)).toNat]? = some (.bool (bl.getD i false)) := kbo_at OW.bools i (by rw [OW.blen]; exact hi)
    have hxd : @Ne Nat (r.x i) (r.d i) := Ne.symm (dro i i hi hi).1
    have mth : ({ r with bv := bv } : RealA).thD w θ i ∈ RealA.led { r with bv := bv } w n z nz vh ve ne θ vh2 vd vf vg c6 Rst := List.mem_append_left _ (List.mem_append_right _ (RealA.ths_d (r := { r with bv := bv }) hi))
    have mx : (r.x i, instObj 78 (r.d i)) ∈ RealA.led { r with bv := bv } w n z nz vh ve ne θ vh2 vd vf vg c6 Rst := List.mem_append_left _ (List.mem_append_right _ (RealA.ths_ro (r := { r with bv := bv }) hi (.head _)))
    obtain ⟨R, N4, hoff, hs, hs2⟩ := split_news (Ex := [(r.x i, instObj 78 (r.d i)), ({ r with bv := bv } : RealA).thD w θ i]) N3 (fun q hq => by
      replace hq := mem_ors hq
      rcases hq with rfl | rfl
      · exact .tail _ mx
      · exact .tail _ mth)
    have N3w := fun _ : Unit => N3
    have hlit : ∀ q ∈ [(cm, om), (r.cc, r.occ), (r.ct, r.oct), (r.co, r.oco), (r.xc, instObj 359 r.dc), (r.dc, counterD w.params r.c1 r.c2 r.c3 r.c4 r.xh r.fD r.pd r.ed), (r.tl, listOf (r.vt n).toArray r.nt), (r.o.od, r.o.oo), (r.o.bll, listOf r.o.vb.toArray r.o.c4)], q ∈ RealA.led { r with bv := bv } w n z nz vh ve ne θ vh2 vd vf vg c6 Rst := fun q hq => by
      replace hq := mem_ors hq
      rcases hq with rfl | rfl | rfl | rfl | rfl | rfl | rfl | rfl | rfl
      · exact List.mem_append_right _ (List.mem_append_right _ hmm)
      · exact List.mem_append_left _ (List.mem_append_left _ (by k_mem))
      · exact List.mem_append_left _ (List.mem_append_left _ (by k_mem))
      · exact List.mem_append_left _ (List.mem_append_left _ (by k_mem))
      · exact List.mem_append_left _ (List.mem_append_left _ (by k_mem))
      · exact List.mem_append_left _ (List.mem_append_left _ (by k_mem))
      · exact List.mem_append_left _ (List.mem_append_left _ (by k_mem))
      · exact List.mem_append_left _ (List.mem_append_left _ (by k_mem))
      · exact List.mem_append_right _ (List.mem_append_left _ (by k_mem))
    have N5 : News h₀ L h ([(cm, om), (r.cc, r.occ), (r.ct, r.oct), (r.co, r.oco), (r.xc, instObj 359 r.dc), (r.dc, counterD w.params r.c1 r.c2 r.c3 r.c4 r.xh r.fD r.pd r.ed), (r.tl, listOf (r.vt n).toArray r.nt), (r.o.od, r.o.oo), (r.o.bll, listOf r.o.vb.toArray r.o.c4)]) := fun q hq => N3 q (.tail _ (hlit q hq))
    clear N3
    have N4w := fun _ : Unit => N4
    clear N4
    (try k_fold)
    repeat' ((fail_if_success (with_reducible show wpAny _ _ (call (Value.ref 288) _) _ _ _)); (first | (k_unfold; (try dsimp only)) | walk1 | (dsimp only; walk1) | fail "no step"))
    have hdI : I ≠ r.d i := fun e => hoffI _ mth e.symm
    have hA : ∀ q ∈ r.ex w n z #[] nz vh ve ne, q.1 ≠ r.d i := fun q hq e => by
      rcases RealA.ex_adr q hq with e2 | e2
      · exact dadr i hi (e ▸ e2)
      · exact (gz.2 i hi).1 (e2.symm.trans e)
    have hB : ∀ j, j < n → ∀ q ∈ r.roL j, q.1 ≠ r.d i := fun j hj q hq e => by
      obtain ⟨a1, a2, a3, a4⟩ := dro i j hi hj
      replace hq := mem_ors hq
      rcases hq with rfl | rfl | rfl | rfl
      · exact a1 e.symm
      · exact a2 e.symm
      · exact a3 e.symm
      · exact a4 e.symm
    have hC : ∀ q ∈ r.own5 vh2 vd vf vg c6 ++ Rst, q.1 ≠ r.d i := fun q hq e => off.own q hq (by
      rw [e]; exact List.mem_append_right _ (List.mem_flatMap.mpr ⟨i, List.mem_range.mpr hi, by simp⟩))
    have keepN : ∀ (h' : Heap) (o' : Obj), News h₀ L h' ([(r.x i, instObj 78 (r.d i)), (r.d i, o')] ++ R) → ∀ q ∈ (I, it) :: RealA.led { r with bv := bv } w n z nz vh ve ne θ vh2 vd vf vg c6 Rst, q.1 ≠ r.d i → h'.get? q.1 = some q.2 ∧ q.1 ≠ L ∧ h₀.get? q.1 = none := fun h' o' Nh q hq hne => by
      rcases List.mem_append.mp (hs q hq) with h1 | h1
      · replace h1 := mem_ors h1
        rcases h1 with rfl | rfl
        · exact Nh _ (.head _)
        · exact absurd rfl hne
      · exact Nh q (List.mem_append_right _ h1)
    have hlitd : ∀ q ∈ [(cm, om), (r.cc, r.occ), (r.ct, r.oct), (r.co, r.oco), (r.xc, instObj 359 r.dc), (r.dc, counterD w.params r.c1 r.c2 r.c3 r.c4 r.xh r.fD r.pd r.ed), (r.tl, listOf (r.vt n).toArray r.nt), (r.o.od, r.o.oo), (r.o.bll, listOf r.o.vb.toArray r.o.c4)], q.1 ≠ r.d i := fun q hq => by
      replace hq := mem_ors hq
      rcases hq with rfl | rfl | rfl | rfl | rfl | rfl | rfl | rfl | rfl
      · exact hC _ (List.mem_append_right _ hmm)
      · exact hA _ (by k_mem)
      · exact hA _ (by k_mem)
      · exact hA _ (by k_mem)
      · exact hA _ (by k_mem)
      · exact hA _ (by k_mem)
      · exact hA _ (by k_mem)
      · exact hA _ (by k_mem)
      · exact hC _ (List.mem_append_left _ (by k_mem))
    clear N5
    have N4 := N4w ()
    k_dflt (refine' hold_ex B F3 X T ?k5 N4 hoff hxd (by rw [j7]; omega) (by rw [j7]; omega) ?kd ?ku ?_)
    case k5 => rfl
    case kd => ktr_room
    case ku => ktr_units
    intro h6 tk6 tc6 F6 N6
    have N6w := fun _ : Unit => N6
    have N7 : News h₀ L h6 [(cm, om), (r.cc, r.occ), (r.ct, r.oct), (r.co, r.oco), (r.xc, instObj 359 r.dc), (r.dc, counterD w.params r.c1 r.c2 r.c3 r.c4 r.xh r.fD r.pd r.ed), (r.tl, listOf (r.vt n).toArray r.nt), (r.o.od, r.o.oo), (r.o.bll, listOf r.o.vb.toArray r.o.c4)] := fun q hq => keepN _ _ N6 q (.tail _ (hlit q hq)) (hlitd q hq)
    clear N4 N6 F3
    (try dsimp only)
    (try k_fold)
    cases ebl : bl.getD i false with
    | false =>
      rw [ebl] at hxb
      repeat' (first | (k_unfold; (try dsimp only)) | walk1 | (dsimp only; walk1) | fail "no step")
      have N6 : News h₀ L h6 ([(r.x i, instObj 78 (r.d i)), (r.d i, ({ θ i with tc := tc6, cnt := (θ i).cnt + 1 } : Th).obj w.params ((i : Int) + 1) .none)] ++ R) := j8 ▸ N6w ()
      refine ⟨_, _, _, RealA.led { r with bv := fun j => if j = i then .none else bv j } w n z nz vh ve ne (upd θ i { θ i with tc := tc6, cnt := (θ i).cnt + 1 }) vh2 vd vf vg c6 Rst, rfl, F6, fun q hq => ?_, fun q hq => ?_, _, _, rfl, hI.step hi (by show (θ i).cnt + 1 = 1; rw [j7]; rfl) j3 j1 j2 j4 ⟨(fun e => by rw [ebl] at e; cases e), fun _ => rfl⟩⟩
      · rcases List.mem_cons.mp hq with rfl | hq
        · exact keepN _ _ N6 _ (.head _) hdI
        · rcases led_turn hA hB hC (fun j hj hji => dne j i hj hi hji) q hq with rfl | ⟨h1, h2⟩
          · exact N6 _ (.tail _ (.head _))
          · exact keepN _ _ N6 q (.tail _ h1) h2
      · rcases led_turn hA hB hC (fun j hj hji => dne j i hj hi hji) q hq with rfl | ⟨h1, _⟩
        · exact fun e => hdI e.symm
        · exact hoffI q h1
    | true =>
      rw [ebl] at hxb
      repeat' ((fail_if_success (with_reducible show wpAny _ _ (call (Value.ref 370) _) _ _ _)); (first | (k_unfold; (try dsimp only)) | walk1 | (dsimp only; walk1) | fail "no step"))
      have N6 := N6w ()
      clear N7
      k_dflt (refine' bless_ex B F6 X T ?k5 N6 (fun p hp q hq => ?hoff) hxd ?kd ?ku ?_)
      case k5 => rfl
      case kd => ktr_room
      case ku => ktr_units
      case hoff =>
        replace hq := mem_ors hq
        rcases hq with rfl | rfl
        · exact hoff p hp (r.x i, instObj 78 (r.d i)) (.head _)
        · exact hoff p hp (({ r with bv := bv } : RealA).thD w θ i) (.tail _ (.head _))
      intro h8 tk8 F8 N8
      clear N6 F6
      obtain ⟨tP, N8w⟩ : ∃ tP, Unit → News h₀ L h8 ([(r.x i, instObj 78 (r.d i)), (r.d i, ({ θ i with tc := tc6, cnt := (θ i).cnt + 1 } : Th).obj w.params ((i : Int) + 1) (.str (PySem.Str.ofString "P") tP))] ++ R) := ⟨_, fun _ => N8⟩
      clear N8
      (try dsimp only)
      repeat' (first | (k_unfold; (try dsimp only)) | walk1 | (dsimp only; walk1) | fail "no step")
      have N8 := N8w ()
      refine ⟨_, _, _, RealA.led { r with bv := fun j => if j = i then .str (PySem.Str.ofString "P") tP else bv j } w n z nz vh ve ne (upd θ i { θ i with tc := tc6, cnt := (θ i).cnt + 1 }) vh2 vd vf vg c6 Rst, rfl, F8, fun q hq => ?_, fun q hq => ?_, _, _, rfl, hI.step hi (by show (θ i).cnt + 1 = 1; rw [j7]; rfl) j3 j1 j2 j4 ⟨fun _ => ⟨tP, rfl⟩, (fun e => by rw [ebl] at e; cases e)⟩⟩
      · rcases List.mem_cons.mp hq with rfl | hq
        · exact keepN _ _ N8 _ (.head _) hdI
        · rcases led_turn hA hB hC (fun j hj hji => dne j i hj hi hji) q hq with rfl | ⟨h1, h2⟩
          · exact N8 _ (.tail _ (.head _))
          · exact keepN _ _ N8 q (.tail _ h1) h2
      · rcases led_turn hA hB hC (fun j hj hji => dne j i hj hi hji) q hq with rfl | ⟨h1, _⟩
        · exact fun e => hdI e.symm
        · exact hoffI q h1
  · rintro v nx h tk ⟨θ, bv, rfl, hI⟩ F3 N3
    dsimp only
    have OO := HO bv fun j hj => ((hI j hj).2.2.2.2.1 hj).2
    exact law_early (r := { r with bv := bv }) OO OW hvp B F3 X T N3 off roff ⟨g1, g2, g3, g4, g5, g6, gl, ⟨fun j hj => (hI j hj).2.2.1.trans (hS0 j hj).2.1.symm, fun j hj => (hI j hj).2.2.2.1.trans (hS0 j hj).2.2.symm, fun j hj _ => ⟨((hI j hj).2.2.2.2.1 hj).1, (hI j hj).1, (hI j hj).2.1, (hI j hj).2.2.2.1⟩⟩, gz, fun j hj e => by rw [(hS0 j hj).1] at e; cases e⟩
      hmP (by show (if _ = _ then _ else _) = _; rw [if_neg (by decide)]; exact hpl) hps hin hlp hmE (by show (if _ = _ then _ else _) = _; rw [if_neg (by decide)]; exact hpe) hes hine hgt hmm hom hd hu fun h' tk' m' F' => ret _ _ _ F'
theorem all (x : XX) : StX (x.1) (x.2.1) (x.2.2.1) (x.2.2.2.1) (x.2.2.2.2.1) (x.2.2.2.2.2.1) (x.2.2.2.2.2.2.1) (x.2.2.2.2.2.2.2.1) (x.2.2.2.2.2.2.2.2.1) (x.2.2.2.2.2.2.2.2.2.1) (x.2.2.2.2.2.2.2.2.2.2.1) (x.2.2.2.2.2.2.2.2.2.2.2.1) (x.2.2.2.2.2.2.2.2.2.2.2.2.1) (x.2.2.2.2.2.2.2.2.2.2.2.2.2.1) (x.2.2.2.2.2.2.2.2.2.2.2.2.2.2.1) (x.2.2.2.2.2.2.2.2.2.2.2.2.2.2.2.1) (x.2.2.2.2.2.2.2.2.2.2.2.2.2.2.2.2.1) (x.2.2.2.2.2.2.2.2.2.2.2.2.2.2.2.2.2.1) (x.2.2.2.2.2.2.2.2.2.2.2.2.2.2.2.2.2.2.1) (x.2.2.2.2.2.2.2.2.2.2.2.2.2.2.2.2.2.2.2.1) (x.2.2.2.2.2.2.2.2.2.2.2.2.2.2.2.2.2.2.2.2.1) (x.2.2.2.2.2.2.2.2.2.2.2.2.2.2.2.2.2.2.2.2.2.1) (x.2.2.2.2.2.2.2.2.2.2.2.2.2.2.2.2.2.2.2.2.2.2.1) (x.2.2.2.2.2.2.2.2.2.2.2.2.2.2.2.2.2.2.2.2.2.2.2.1) (x.2.2.2.2.2.2.2.2.2.2.2.2.2.2.2.2.2.2.2.2.2.2.2.2.1) (x.2.2.2.2.2.2.2.2.2.2.2.2.2.2.2.2.2.2.2.2.2.2.2.2.2.1) (x.2.2.2.2.2.2.2.2.2.2.2.2.2.2.2.2.2.2.2.2.2.2.2.2.2.2.1) (x.2.2.2.2.2.2.2.2.2.2.2.2.2.2.2.2.2.2.2.2.2.2.2.2.2.2.2.1) (x.2.2.2.2.2.2.2.2.2.2.2.2.2.2.2.2.2.2.2.2.2.2.2.2.2.2.2.2.1) (x.2.2.2.2.2.2.2.2.2.2.2.2.2.2.2.2.2.2.2.2.2.2.2.2.2.2.2.2.2.1) (x.2.2.2.2.2.2.2.2.2.2.2.2.2.2.2.2.2.2.2.2.2.2.2.2.2.2.2.2.2.2.1) (x.2.2.2.2.2.2.2.2.2.2.2.2.2.2.2.2.2.2.2.2.2.2.2.2.2.2.2.2.2.2.2.1) (x.2.2.2.2.2.2.2.2.2.2.2.2.2.2.2.2.2.2.2.2.2.2.2.2.2.2.2.2.2.2.2.2.1) (x.2.2.2.2.2.2.2.2.2.2.2.2.2.2.2.2.2.2.2.2.2.2.2.2.2.2.2.2.2.2.2.2.2.1) (x.2.2.2.2.2.2.2.2.2.2.2.2.2.2.2.2.2.2.2.2.2.2.2.2.2.2.2.2.2.2.2.2.2.2.1) (x.2.2.2.2.2.2.2.2.2.2.2.2.2.2.2.2.2.2.2.2.2.2.2.2.2.2.2.2.2.2.2.2.2.2.2.1) (x.2.2.2.2.2.2.2.2.2.2.2.2.2.2.2.2.2.2.2.2.2.2.2.2.2.2.2.2.2.2.2.2.2.2.2.2.1) (x.2.2.2.2.2.2.2.2.2.2.2.2.2.2.2.2.2.2.2.2.2.2.2.2.2.2.2.2.2.2.2.2.2.2.2.2.2.1) (x.2.2.2.2.2.2.2.2.2.2.2.2.2.2.2.2.2.2.2.2.2.2.2.2.2.2.2.2.2.2.2.2.2.2.2.2.2.2.1) (x.2.2.2.2.2.2.2.2.2.2.2.2.2.2.2.2.2.2.2.2.2.2.2.2.2.2.2.2.2.2.2.2.2.2.2.2.2.2.2.1) (x.2.2.2.2.2.2.2.2.2.2.2.2.2.2.2.2.2.2.2.2.2.2.2.2.2.2.2.2.2.2.2.2.2.2.2.2.2.2.2.2.1) (x.2.2.2.2.2.2.2.2.2.2.2.2.2.2.2.2.2.2.2.2.2.2.2.2.2.2.2.2.2.2.2.2.2.2.2.2.2.2.2.2.2.1) (x.2.2.2.2.2.2.2.2.2.2.2.2.2.2.2.2.2.2.2.2.2.2.2.2.2.2.2.2.2.2.2.2.2.2.2.2.2.2.2.2.2.2.1) (x.2.2.2.2.2.2.2.2.2.2.2.2.2.2.2.2.2.2.2.2.2.2.2.2.2.2.2.2.2.2.2.2.2.2.2.2.2.2.2.2.2.2.2.1) (x.2.2.2.2.2.2.2.2.2.2.2.2.2.2.2.2.2.2.2.2.2.2.2.2.2.2.2.2.2.2.2.2.2.2.2.2.2.2.2.2.2.2.2.2.1) (x.2.2.2.2.2.2.2.2.2.2.2.2.2.2.2.2.2.2.2.2.2.2.2.2.2.2.2.2.2.2.2.2.2.2.2.2.2.2.2.2.2.2.2.2.2.1) (x.2.2.2.2.2.2.2.2.2.2.2.2.2.2.2.2.2.2.2.2.2.2.2.2.2.2.2.2.2.2.2.2.2.2.2.2.2.2.2.2.2.2.2.2.2.2.1) (x.2.2.2.2.2.2.2.2.2.2.2.2.2.2.2.2.2.2.2.2.2.2.2.2.2.2.2.2.2.2.2.2.2.2.2.2.2.2.2.2.2.2.2.2.2.2.2.1) (x.2.2.2.2.2.2.2.2.2.2.2.2.2.2.2.2.2.2.2.2.2.2.2.2.2.2.2.2.2.2.2.2.2.2.2.2.2.2.2.2.2.2.2.2.2.2.2.2) := eps_all (ne := neX) (P := fun x => StX (x.1) (x.2.1) (x.2.2.1) (x.2.2.2.1) (x.2.2.2.2.1) (x.2.2.2.2.2.1) (x.2.2.2.2.2.2.1) (x.2.2.2.2.2.2.2.1) (x.2.2.2.2.2.2.2.2.1) (x.2.2.2.2.2.2.2.2.2.1) (x.2.2.2.2.2.2.2.2.2.2.1) (x.2.2.2.2.2.2.2.2.2.2.2.1) (x.2.2.2.2.2.2.2.2.2.2.2.2.1) (x.2.2.2.2.2.2.2.2.2.2.2.2.2.1) (x.2.2.2.2.2.2.2.2.2.2.2.2.2.2.1) (x.2.2.2.2.2.2.2.2.2.2.2.2.2.2.2.1) (x.2.2.2.2.2.2.2.2.2.2.2.2.2.2.2.2.1) (x.2.2.2.2.2.2.2.2.2.2.2.2.2.2.2.2.2.1) (x.2.2.2.2.2.2.2.2.2.2.2.2.2.2.2.2.2.2.1) (x.2.2.2.2.2.2.2.2.2.2.2.2.2.2.2.2.2.2.2.1) (x.2.2.2.2.2.2.2.2.2.2.2.2.2.2.2.2.2.2.2.2.1) (x.2.2.2.2.2.2.2.2.2.2.2.2.2.2.2.2.2.2.2.2.2.1) (x.2.2.2.2.2.2.2.2.2.2.2.2.2.2.2.2.2.2.2.2.2.2.1) (x.2.2.2.2.2.2.2.2.2.2.2.2.2.2.2.2.2.2.2.2.2.2.2.1) (x.2.2.2.2.2.2.2.2.2.2.2.2.2.2.2.2.2.2.2.2.2.2.2.2.1) (x.2.2.2.2.2.2.2.2.2.2.2.2.2.2.2.2.2.2.2.2.2.2.2.2.2.1) (x.2.2.2.2.2.2.2.2.2.2.2.2.2.2.2.2.2.2.2.2.2.2.2.2.2.2.1) (x.2.2.2.2.2.2.2.2.2.2.2.2.2.2.2.2.2.2.2.2.2.2.2.2.2.2.2.1) (x.2.2.2.2.2.2.2.2.2.2.2.2.2.2.2.2.2.2.2.2.2.2.2.2.2.2.2.2.1) (x.2.2.2.2.2.2.2.2.2.2.2.2.2.2.2.2.2.2.2.2.2.2.2.2.2.2.2.2.2.1) (x.2.2.2.2.2.2.2.2.2.2.2.2.2.2.2.2.2.2.2.2.2.2.2.2.2.2.2.2.2.2.1) (x.2.2.2.2.2.2.2.2.2.2.2.2.2.2.2.2.2.2.2.2.2.2.2.2.2.2.2.2.2.2.2.1) (x.2.2.2.2.2.2.2.2.2.2.2.2.2.2.2.2.2.2.2.2.2.2.2.2.2.2.2.2.2.2.2.2.1) (x.2.2.2.2.2.2.2.2.2.2.2.2.2.2.2.2.2.2.2.2.2.2.2.2.2.2.2.2.2.2.2.2.2.1) (x.2.2.2.2.2.2.2.2.2.2.2.2.2.2.2.2.2.2.2.2.2.2.2.2.2.2.2.2.2.2.2.2.2.2.1) (x.2.2.2.2.2.2.2.2.2.2.2.2.2.2.2.2.2.2.2.2.2.2.2.2.2.2.2.2.2.2.2.2.2.2.2.1) (x.2.2.2.2.2.2.2.2.2.2.2.2.2.2.2.2.2.2.2.2.2.2.2.2.2.2.2.2.2.2.2.2.2.2.2.2.1) (x.2.2.2.2.2.2.2.2.2.2.2.2.2.2.2.2.2.2.2.2.2.2.2.2.2.2.2.2.2.2.2.2.2.2.2.2.2.1) (x.2.2.2.2.2.2.2.2.2.2.2.2.2.2.2.2.2.2.2.2.2.2.2.2.2.2.2.2.2.2.2.2.2.2.2.2.2.2.1) (x.2.2.2.2.2.2.2.2.2.2.2.2.2.2.2.2.2.2.2.2.2.2.2.2.2.2.2.2.2.2.2.2.2.2.2.2.2.2.2.1) (x.2.2.2.2.2.2.2.2.2.2.2.2.2.2.2.2.2.2.2.2.2.2.2.2.2.2.2.2.2.2.2.2.2.2.2.2.2.2.2.2.1) (x.2.2.2.2.2.2.2.2.2.2.2.2.2.2.2.2.2.2.2.2.2.2.2.2.2.2.2.2.2.2.2.2.2.2.2.2.2.2.2.2.2.1) (x.2.2.2.2.2.2.2.2.2.2.2.2.2.2.2.2.2.2.2.2.2.2.2.2.2.2.2.2.2.2.2.2.2.2.2.2.2.2.2.2.2.2.1) (x.2.2.2.2.2.2.2.2.2.2.2.2.2.2.2.2.2.2.2.2.2.2.2.2.2.2.2.2.2.2.2.2.2.2.2.2.2.2.2.2.2.2.2.1) (x.2.2.2.2.2.2.2.2.2.2.2.2.2.2.2.2.2.2.2.2.2.2.2.2.2.2.2.2.2.2.2.2.2.2.2.2.2.2.2.2.2.2.2.2.1) (x.2.2.2.2.2.2.2.2.2.2.2.2.2.2.2.2.2.2.2.2.2.2.2.2.2.2.2.2.2.2.2.2.2.2.2.2.2.2.2.2.2.2.2.2.2.1) (x.2.2.2.2.2.2.2.2.2.2.2.2.2.2.2.2.2.2.2.2.2.2.2.2.2.2.2.2.2.2.2.2.2.2.2.2.2.2.2.2.2.2.2.2.2.2.1) (x.2.2.2.2.2.2.2.2.2.2.2.2.2.2.2.2.2.2.2.2.2.2.2.2.2.2.2.2.2.2.2.2.2.2.2.2.2.2.2.2.2.2.2.2.2.2.2.1) (x.2.2.2.2.2.2.2.2.2.2.2.2.2.2.2.2.2.2.2.2.2.2.2.2.2.2.2.2.2.2.2.2.2.2.2.2.2.2.2.2.2.2.2.2.2.2.2.2)) (by with_unfolding_all exact core) x
end C_law_hold
theorem law_hold {w : World}
  {p : Program}
  {loose : List PySem.Str}
  {mean : ExcName → Option Value}
  {mg mb : PySem.Str → Option Value}
  {r : RealA}
  {plan : List (List Int)}
  {bl : List Bool}
  {n : Nat}
  (HO : ∀ bv : Nat → Value, (∀ j, j < n → BlessOk bl bv j) → RealOk w { r with bv := bv } plan bl n)
  (OW : OwnOk w r.o plan bl n)
  (hvp : r.o.vp.length = n)
  {dp un : Nat}
  {gd : Option (List Code)}
  {a : Addr}
  {ccd : Value}
  {outer : List Env}
  {A₀ : Around}
  {base h₀ : Heap}
  {L : Addr}
  {m : PySem.Str → Option Value}
  {s : Shared}
  {Q : Flow → Shared → Prop}
  {E : Value → Shared → Prop}
  {z : Addr}
  {nz : Nat}
  {vh ve vh2 vd vf vg pls pes : List Value}
  {ne c6 cP cE : Nat}
  {θ : Nat → Th}
  {S : S}
  {cj cm P Pe : Addr}
  {om : Obj}
  {tm : Tok}
  {ps es : List Int}
  {Rst : List (Addr × Obj)}
  {tps : Array Value}
  (B : Below A₀ base outer h₀)
  (F : Fr h₀ L s.heap m)
  (X : (hd.heap_1 w.params).In h₀)
  (T : Top p loose mean mg mb h₀)
  (N : News h₀ L s.heap (r.led w n z nz vh ve ne θ vh2 vd vf vg c6 Rst))
  (off : r.Apart n z Rst)
  (roff : ∀ q ∈ Rst, q.1 ∉ r.o.adr)
  (g1 : BoolsAre vh S.held)
  (g2 : IntsAre ve S.log)
  (g3 : BoolsAre vh2 S.held)
  (g4 : BoolsAre vd S.done)
  (g5 : BoolsAre vf S.freed)
  (g6 : IntsAre vg S.log)
  (gl : S.Len n)
  (gz : r.Zoff n z)
  (hS0 : ∀ j, j < n → S.held.getD j false = true ∧ S.done.getD j false = false ∧ S.freed.getD j false = false)
  (hI0 : HoldInv r bl n 0 θ r.bv)
  (hmP : (P, listOf pls.toArray cP) ∈ Rst)
  (hpl : m (PySem.Str.ofString "listed") = some (.ref P))
  (hps : IntsAre pls ps)
  (hin : ∀ q ∈ ps, 0 ≤ q ∧ q < (n : Int))
  (hlp : ps.length ≤ 10)
  (hmE : (Pe, listOf pes.toArray cE) ∈ Rst)
  (hpe : m (PySem.Str.ofString "early") = some (.ref Pe))
  (hes : IntsAre pes es)
  (hine : ∀ q ∈ es, 0 ≤ q ∧ q < (n : Int))
  (hgt : (427, tabObj tps) ∈ Rst)
  (hmm : (cm, om) ∈ Rst)
  (hom : om.data = .cell (some (.int (n : Int) tm)))
  (hd : dp + 60 < recursionLimit)
  (hu : un + 600 < cLine)
  (ret : ∀ h' tk' m', Fr h₀ L h' m' → GrownAt 427 h' → Q (.ret (.bool true)) { s with heap := h', toks := tk' }) : wpAny (model Pr w) (ktrTop dp un gd (PySem.Str.ofString "law") lawScope L a ccd (lawCl r cj cm) outer) (execs (lawRest 12) (envX (PySem.Str.ofString "law") lawScope L a ccd (lawCl r cj cm))) Q E s :=
  C_law_hold.all (w, p, loose, mean, mg, mb, r, plan, bl, n, dp, un, gd, a, ccd, outer, A₀, base, h₀, L, m, s, Q, E, z, nz, vh, ve, vh2, vd, vf, vg, pls, pes, ne, c6, cP, cE, θ, cj, cm, P, Pe, om, tm, ps, es, Rst, tps) S HO OW hvp B F X T N off roff g1 g2 g3 g4 g5 g6 gl gz hS0 hI0 hmP hpl hps hin hlp hmE hpe hes hine hgt hmm hom hd hu ret
end Mine
end
end
theorem Mine.rs_o8 {w : PySem.World} {p : PySem.Program} {A : PySem.Around} {q : PySem.Pos} {e : PySem.Env} {Q : PySem.Flow → PySem.Shared → Prop} {E : PySem.Value → PySem.Shared → Prop} {s : PySem.Shared} (h : PySem.wpAny (PySem.model p w) A (PySem.exec (PySem.Stmt.Pass q) e) Q E s) : PySem.wpAny (PySem.model p w) A (PySem.exec (PySem.Stmt.Pass q) e) Q E s := by
  w_top off
  first | (walk1; exact h) | exact h
end
theorem Mine.rs_o9 {w : PySem.World} {p : PySem.Program} {A : PySem.Around} {q : PySem.Pos} {e : PySem.Env} {Q : PySem.Flow → PySem.Shared → Prop} {E : PySem.Value → PySem.Shared → Prop} {s : PySem.Shared} (h : PySem.wpAny (PySem.model p w) A (PySem.exec (PySem.Stmt.Pass q) e) Q E s) : PySem.wpAny (PySem.model p w) A (PySem.exec (PySem.Stmt.Pass q) e) Q E s := by
  w_top off
  first | (walk1; exact h) | exact h
section
open PySem PySem.W PyProof.Rows PySem.Calls LSm
namespace Mine
theorem rep_bool {prog : Program} {w : World} {A : Around} {E : Value → Shared → Prop} {s : Shared} {h₀ : Heap} {L l : Addr} {m : PySem.Str → Option Value} {news : List (Addr × Obj)} {n k : Nat} {u : Tok} {b : Bool} {Q : Value → Shared → Prop} (F : Fr h₀ L s.heap m) (N : News h₀ L s.heap news) (hm : (l, listOf #[.bool b] k) ∈ news) (hn : n ≤ 5)
    (h : ∀ D h' vs, Fr h₀ L h' m → News h₀ L h' ((D, listOf (List.toArray vs) 0) :: news) → (∀ p ∈ news, p.1 < D) → BoolsAre vs (List.replicate n b) → Q (.ref D) { s with heap := h' }) : wpAny (model prog w) A (binaryOp .Mult (.ref l) (.int (n : Int) u)) Q E s :=
  kbo_mul (vs := [.bool b]) (bs := [b]) F N ⟨_, (N _ hm).1, rfl, k, rfl⟩ (.cons _ .nil) (by omega) (by omega) (by simp; omega) fun D h' F' N' l1 i1 _ _ _ _ _ _ => h D h' _ F' N' l1 (by
    have e : (List.replicate ((n : Int)).toNat [b]).flatten = List.replicate n b := by rw [Int.toNat_natCast]; simp
    rw [e] at i1; exact i1)
noncomputable abbrev lawClA (cT cO cLt cH cE cP cC cM cJ : Addr) : List (PySem.Str × Addr) :=
  [(PySem.Str.ofString "things", cT), (PySem.Str.ofString "own", cO), (PySem.Str.ofString "let", cLt), (PySem.Str.ofString "held", cH), (PySem.Str.ofString "heard", cE), (PySem.Str.ofString "heap", cP), (PySem.Str.ofString "counter", cC), (PySem.Str.ofString "many", cM), (PySem.Str.ofString "jug", cJ)]
theorem comp_inv {prog : Program} {w : World} {A : Around} {h₀ : Heap} {L : Addr} {m : PySem.Str → Option Value} {env : Env} {elt : PySem.Expr} {x : PySem.Str} {scope : Scope} {cl : List (PySem.Str × Addr)} {s : Shared} {S : List (Addr × Obj) → Prop} {P : Nat → Value → Prop} {Fin : List Value → List (Addr × Obj) → Prop} {news : List (Addr × Obj)} {n : Nat} (J : Nat → List Value → List (Addr × Obj) → Prop)
    (turn : ∀ i v I oI C oC D m₂ ys nx h tk (E' : Value → Shared → Prop), i < n → P i v → J i ys nx → LCg.NsObj oC m₂ → m₂ x = some v → Fr h₀ L h m → News h₀ L h ((I, oI) :: (C, oC) :: (D, LCg.lst ys) :: nx) → LCg.Off3 I C D nx → ((@Ne Nat I C) ∧ (@Ne Nat I D) ∧ (@Ne Nat C D)) →
      wpAny (model prog w) A (eval elt (compEnvC scope cl C env)) (LCg.CompEnd h₀ L m { s with heap := h, toks := tk } I oI C oC D (LCg.lst ys) S (fun y news' => J (i + 1) (ys ++ [y]) news')) E' { s with heap := h, toks := tk })
    (h0 : J 0 [] news) (fin : ∀ ys nx, J n ys nx → Fin ys nx) : LCg.CompRest prog w A h₀ L m env elt x scope cl s S P Fin n 0 [] news := by
  have key : ∀ (j i : Nat) (ys : List Value) (nx : List (Addr × Obj)), i + j = n → J i ys nx → LCg.CompRest prog w A h₀ L m env elt x scope cl s S P Fin j i ys nx := by
    intro j
    induction j with
    | zero =>
      intro i ys nx hi hj
      obtain rfl : i = n := by omega
      exact LCg.CompRest.zero (fin ys nx hj)
    | succ j ih =>
      intro i ys nx hi hj
      refine LCg.CompRest.succ ?_
      intro v I oI C oC D m₂ h tk E' hv hC hx F N off ne
      refine wpAny_mono (turn i v I oI C oC D m₂ ys nx h tk E' (by omega) hv hj hC hx F N off ne) (fun y s₂ hq => ?_) fun _ _ e => e
      obtain ⟨h', tk', nw, e, F', N', off', hS, hg⟩ := hq
      exact ⟨h', tk', nw, e, F', N', off', hS, ih (i + 1) _ nw (by omega) hg⟩
  exact key n 0 [] news (by omega) h0
theorem allLt_mem {d : Nat} : ∀ {l : List (Addr × Obj)}, AllLt d l → ∀ p ∈ l, @LT.lt Nat _ p.1 d
  | [], _, _, h => nomatch h
  | _ :: _, x, p, h => by
    rcases List.mem_cons.mp h with rfl | h
    · exact x.1
    · exact allLt_mem x.2 p h
end Mine
end
theorem Mine.rs_NewA : True := by
  w_top off
  trivial
section
open PySem PySem.W PyProof.Rows PySem.Calls
namespace Mine
theorem th_of {P : Params} {h₀ h : Heap} {L it wk x d : Addr} {c1 c2 : Nat} {t1 t2 t3 t4 t5 t6 t7 t8 tn tc : Tok} {num cnt : Int} {bv : Value} {dest freed : Bool} {rest : List (Addr × Obj)} (N : News h₀ L h ((it, listOf #[] c2) :: (wk, listOf #[] c1) :: (x, instObj 78 d) :: (d, thingD P t1 t2 t3 t4 t5 t6 t7 t8 tn tc num cnt bv wk dest freed it) :: rest)) :
    ∃ θ : Th, News h₀ L h ([(x, instObj 78 d), (d, θ.obj P num bv), (wk, listOf #[] c1), (it, listOf #[] c2)] ++ rest) ∧ θ.cnt = cnt ∧ θ.wk = wk ∧ θ.it = it ∧ θ.dest = dest ∧ θ.freed = freed :=
  ⟨⟨t1, t2, t3, t4, t5, t6, t7, t8, tn, tc, cnt, wk, dest, freed, it⟩, fun q hq => by
    rcases List.mem_append.mp hq with hq | hq
    · replace hq := mem_ors hq
      rcases hq with rfl | rfl | rfl | rfl
      · exact N _ (.tail _ (.tail _ (.head _)))
      · exact N _ (.tail _ (.tail _ (.tail _ (.head _))))
      · exact N _ (.tail _ (.head _))
      · exact N _ (.head _)
    · exact N _ (.tail _ (.tail _ (.tail _ (.tail _ hq)))), rfl, rfl, rfl, rfl, rfl⟩
theorem ne_of2 {h₀ h' g h'' : Heap} {L L' : Addr} {lst R : List (Addr × Obj)} (_ : News h₀ L h' lst) (HR : InBase R g) (NG : News g L' h'' lst) : ∀ q ∈ lst, ∀ p ∈ R, @Ne Nat p.1 q.1 := fun _ hq => HR.ne NG hq
namespace C_new_ex
noncomputable abbrev XX : Type := (World) × (Program) × (List PySem.Str) × (ExcName → Option Value) × (PySem.Str → Option Value) × (PySem.Str → Option Value) × (Nat) × (Nat) × (Option (List Code)) × (PySem.Str) × (Scope) × (Addr) × (Value) × (List (PySem.Str × Addr)) × (List Env) × (Around) × (Heap) × (Heap) × (Addr) × (PySem.Str → Option Value) × (Shared) × (Value → Shared → Prop) × (Value → Shared → Prop) × (List (Addr × Obj)) × (Addr) × (Addr) × (Addr) × (Addr) × (Tok) × (Tok) × (Tok) × (Tok) × (Int)
noncomputable def StX (w : World) (p : Program) (loose : List PySem.Str) (mean : ExcName → Option Value) (mg : PySem.Str → Option Value) (mb : PySem.Str → Option Value) (dp : Nat) (un : Nat) (gd : Option (List Code)) (cn : PySem.Str) (cs : Scope) (a : Addr) (ccd : Value) (cl : List (PySem.Str × Addr)) (outer : List Env) (A₀ : Around) (base : Heap) (h₀ : Heap) (L : Addr) (m : PySem.Str → Option Value) (s : Shared) (Q : Value → Shared → Prop) (E : Value → Shared → Prop) (R : List (Addr × Obj)) (xh : Addr) (dh : Addr) (lim : Addr) (z : Addr) (t1 : Tok) (t2 : Tok) (t3 : Tok) (tn : Tok) (last : Int) : Prop :=
  ∀ (B : Below A₀ base outer h₀) (F : Fr h₀ L s.heap m) (X : (hd.heap_1 w.params).In h₀) (T : Top p loose mean mg mb h₀) (hk : cs.kind = .function) (N : News h₀ L s.heap ([(xh, instObj 218 dh), (dh, heapD w.params t1 t2 t3 tn lim last z)] ++ R)) (hoff : AllOff R [(xh, instObj 218 dh), (dh, heapD w.params t1 t2 t3 tn lim last z)]) (e1 : @Ne Nat xh dh) (hc0 : 0 ≤ last) (hc1 : last < 100) (hd : dp + 6 < recursionLimit) (hu : un + 80 < cLine) (ret : ∀ h' tk' x d wk it tn' c1 c2 (θ : Th), Fr h₀ L h' m → News h₀ L h' ([(x, instObj 78 d), (d, θ.obj w.params (last + 1) .none), (wk, listOf #[] c1), (it, listOf #[] c2), (xh, instObj 218 dh), (dh, heapD w.params t1 t2 t3 tn' lim (last + 1) z)] ++ R) →
    θ.cnt = 0 → θ.wk = wk → θ.it = it → θ.dest = false → θ.freed = false →
    (∀ q ∈ [(xh, instObj 218 dh), (dh, heapD w.params t1 t2 t3 tn lim last z)] ++ R, @Ne Nat q.1 x ∧ @Ne Nat q.1 d ∧ @Ne Nat q.1 wk ∧ @Ne Nat q.1 it) → (@Ne Nat d x ∧ @Ne Nat d wk ∧ @Ne Nat d it) → Q (.ref x) { s with heap := h', toks := tk' }), wpAny (model PySem.Challenge.rw_qz0092_01.row.prog w) (ktrTop dp un gd cn cs L a ccd cl outer) (call (.ref 194) [.ref xh]) Q E s
theorem neX : Nonempty XX := by
  refine ⟨?_⟩
  repeat' (first | exact default | exact aWorld 1 | constructor | intro _)
noncomputable def cX : XX := @Classical.epsilon XX neX fun x => ¬ StX (x.1) (x.2.1) (x.2.2.1) (x.2.2.2.1) (x.2.2.2.2.1) (x.2.2.2.2.2.1) (x.2.2.2.2.2.2.1) (x.2.2.2.2.2.2.2.1) (x.2.2.2.2.2.2.2.2.1) (x.2.2.2.2.2.2.2.2.2.1) (x.2.2.2.2.2.2.2.2.2.2.1) (x.2.2.2.2.2.2.2.2.2.2.2.1) (x.2.2.2.2.2.2.2.2.2.2.2.2.1) (x.2.2.2.2.2.2.2.2.2.2.2.2.2.1) (x.2.2.2.2.2.2.2.2.2.2.2.2.2.2.1) (x.2.2.2.2.2.2.2.2.2.2.2.2.2.2.2.1) (x.2.2.2.2.2.2.2.2.2.2.2.2.2.2.2.2.1) (x.2.2.2.2.2.2.2.2.2.2.2.2.2.2.2.2.2.1) (x.2.2.2.2.2.2.2.2.2.2.2.2.2.2.2.2.2.2.1) (x.2.2.2.2.2.2.2.2.2.2.2.2.2.2.2.2.2.2.2.1) (x.2.2.2.2.2.2.2.2.2.2.2.2.2.2.2.2.2.2.2.2.1) (x.2.2.2.2.2.2.2.2.2.2.2.2.2.2.2.2.2.2.2.2.2.1) (x.2.2.2.2.2.2.2.2.2.2.2.2.2.2.2.2.2.2.2.2.2.2.1) (x.2.2.2.2.2.2.2.2.2.2.2.2.2.2.2.2.2.2.2.2.2.2.2.1) (x.2.2.2.2.2.2.2.2.2.2.2.2.2.2.2.2.2.2.2.2.2.2.2.2.1) (x.2.2.2.2.2.2.2.2.2.2.2.2.2.2.2.2.2.2.2.2.2.2.2.2.2.1) (x.2.2.2.2.2.2.2.2.2.2.2.2.2.2.2.2.2.2.2.2.2.2.2.2.2.2.1) (x.2.2.2.2.2.2.2.2.2.2.2.2.2.2.2.2.2.2.2.2.2.2.2.2.2.2.2.1) (x.2.2.2.2.2.2.2.2.2.2.2.2.2.2.2.2.2.2.2.2.2.2.2.2.2.2.2.2.1) (x.2.2.2.2.2.2.2.2.2.2.2.2.2.2.2.2.2.2.2.2.2.2.2.2.2.2.2.2.2.1) (x.2.2.2.2.2.2.2.2.2.2.2.2.2.2.2.2.2.2.2.2.2.2.2.2.2.2.2.2.2.2.1) (x.2.2.2.2.2.2.2.2.2.2.2.2.2.2.2.2.2.2.2.2.2.2.2.2.2.2.2.2.2.2.2.1) (x.2.2.2.2.2.2.2.2.2.2.2.2.2.2.2.2.2.2.2.2.2.2.2.2.2.2.2.2.2.2.2.2)
@[irreducible] noncomputable def w := cX.1
@[irreducible] noncomputable def p := cX.2.1
@[irreducible] noncomputable def loose := cX.2.2.1
@[irreducible] noncomputable def mean := cX.2.2.2.1
@[irreducible] noncomputable def mg := cX.2.2.2.2.1
@[irreducible] noncomputable def mb := cX.2.2.2.2.2.1
@[irreducible] noncomputable def dp := cX.2.2.2.2.2.2.1
@[irreducible] noncomputable def un := cX.2.2.2.2.2.2.2.1
@[irreducible] noncomputable def gd := cX.2.2.2.2.2.2.2.2.1
@[irreducible] noncomputable def cn := cX.2.2.2.2.2.2.2.2.2.1
@[irreducible] noncomputable def cs := cX.2.2.2.2.2.2.2.2.2.2.1
@[irreducible] noncomputable def a := cX.2.2.2.2.2.2.2.2.2.2.2.1
@[irreducible] noncomputable def ccd := cX.2.2.2.2.2.2.2.2.2.2.2.2.1
@[irreducible] noncomputable def cl := cX.2.2.2.2.2.2.2.2.2.2.2.2.2.1
@[irreducible] noncomputable def outer := cX.2.2.2.2.2.2.2.2.2.2.2.2.2.2.1
@[irreducible] noncomputable def A₀ := cX.2.2.2.2.2.2.2.2.2.2.2.2.2.2.2.1
@[irreducible] noncomputable def base := cX.2.2.2.2.2.2.2.2.2.2.2.2.2.2.2.2.1
@[irreducible] noncomputable def h₀ := cX.2.2.2.2.2.2.2.2.2.2.2.2.2.2.2.2.2.1
@[irreducible] noncomputable def L := cX.2.2.2.2.2.2.2.2.2.2.2.2.2.2.2.2.2.2.1
@[irreducible] noncomputable def m := cX.2.2.2.2.2.2.2.2.2.2.2.2.2.2.2.2.2.2.2.1
@[irreducible] noncomputable def s := cX.2.2.2.2.2.2.2.2.2.2.2.2.2.2.2.2.2.2.2.2.1
@[irreducible] noncomputable def Q := cX.2.2.2.2.2.2.2.2.2.2.2.2.2.2.2.2.2.2.2.2.2.1
@[irreducible] noncomputable def E := cX.2.2.2.2.2.2.2.2.2.2.2.2.2.2.2.2.2.2.2.2.2.2.1
@[irreducible] noncomputable def R := cX.2.2.2.2.2.2.2.2.2.2.2.2.2.2.2.2.2.2.2.2.2.2.2.1
@[irreducible] noncomputable def xh := cX.2.2.2.2.2.2.2.2.2.2.2.2.2.2.2.2.2.2.2.2.2.2.2.2.1
@[irreducible] noncomputable def dh := cX.2.2.2.2.2.2.2.2.2.2.2.2.2.2.2.2.2.2.2.2.2.2.2.2.2.1
@[irreducible] noncomputable def lim := cX.2.2.2.2.2.2.2.2.2.2.2.2.2.2.2.2.2.2.2.2.2.2.2.2.2.2.1
@[irreducible] noncomputable def z := cX.2.2.2.2.2.2.2.2.2.2.2.2.2.2.2.2.2.2.2.2.2.2.2.2.2.2.2.1
@[irreducible] noncomputable def t1 := cX.2.2.2.2.2.2.2.2.2.2.2.2.2.2.2.2.2.2.2.2.2.2.2.2.2.2.2.2.1
@[irreducible] noncomputable def t2 := cX.2.2.2.2.2.2.2.2.2.2.2.2.2.2.2.2.2.2.2.2.2.2.2.2.2.2.2.2.2.1
@[irreducible] noncomputable def t3 := cX.2.2.2.2.2.2.2.2.2.2.2.2.2.2.2.2.2.2.2.2.2.2.2.2.2.2.2.2.2.2.1
@[irreducible] noncomputable def tn := cX.2.2.2.2.2.2.2.2.2.2.2.2.2.2.2.2.2.2.2.2.2.2.2.2.2.2.2.2.2.2.2.1
@[irreducible] noncomputable def last := cX.2.2.2.2.2.2.2.2.2.2.2.2.2.2.2.2.2.2.2.2.2.2.2.2.2.2.2.2.2.2.2.2
theorem core : StX w p loose mean mg mb dp un gd cn cs a ccd cl outer A₀ base h₀ L m s Q E R xh dh lim z t1 t2 t3 tn last := by
  unfold StX
  intro B F X T hk N hoff e1 hc0 hc1 hd hu ret
  revert X; k_fill; intro X
  refine wpAny_call ?_
  k_dflt (first | (refine' Mine.code_defR ?k1 ?k2 ?k3 ?k4 ?k5 ?kA ?kF ?kK ?k6 ?k7 ?k8 ?k9 ?kB ?kO ?_ ?c2 ?c3 ?c4 ?c5; (case kA => exact rfl); (case kF => exact rfl); (case kK => assumption); (case k1 => k_asm); (case k2 => k_asm); (case k3 => k_asm); (case k4 => k_asm); (case k5 => k_asm); (case k6 => k_is); (case k7 => k_is); (case k8 => ktr_room); (case k9 => exact BindsTo.of_eq rfl); (case c5 => decide); (case kB => exact locs rfl); (case kO => assumption); (case c2 => exact rfl); (case c3 => exact rfl); (case c4 => exact rfl); k_whole; intro g' L' h' HR' FG' F' N' B' X' T' l1; (try k_lt l1); (try dsimp only); (have lL := Mine.lt_frames FG' F'); (try k_fold)) | (refine' Mine.code_defRC ?k1 ?k2 ?k3 ?k4 ?k5 ?kA ?kF ?kK ?k6 ?k7 ?k8 ?k9 ?kB ?kD ?kO ?_ ?c2 ?c3 ?c4; (case kA => exact rfl); (case kF => exact rfl); (case kK => assumption); (case k1 => k_asm); (case k2 => k_asm); (case k3 => k_asm); (case k4 => k_asm); (case k5 => k_asm); (case k6 => k_is); (case k7 => k_is); (case k8 => ktr_room); (case k9 => exact BindsTo.of_eq rfl); (case kB => exact rfl); (case kD => decide +kernel); (case kO => assumption); (case c2 => exact rfl); (case c3 => exact rfl); (case c4 => exact rfl); k_whole; intro g' L' h' tk' cells' HR' FG' F' N' Y' B' X' T' l1; (try k_lt l1); k_cells Y'; (try simp only [List.cons_append, List.nil_append] at N'); (try dsimp only); (try k_lift B'); (have lL := Mine.lt_frames FG' F'); (try k_fold)) | fail "no entry")
  repeat' (first | (k_unfold; (try dsimp only)) | walk1 | (dsimp only; walk1) | fail "no step")
  rename News h₀ L _ R => NR
  rename News h₀ L _ (_ :: _) => NE
  rename InBase R _ => HR
  have fr := ne_of2 NE HR (by assumption)
  obtain ⟨θ, Nθ, f1, f2, f3, f4, f5⟩ := th_of NE
  refine ret _ _ _ _ _ _ _ _ _ θ (by assumption) (news_app Nθ NR) f1 f2 f3 f4 f5 (fun q hq => ?_) ⟨by omega, by omega, by omega⟩
  rcases List.mem_append.mp hq with hq | hq
  · replace hq := mem_ors hq
    rcases hq with rfl | rfl
    · refine ⟨?_, ?_, ?_, ?_⟩ <;> (show @Ne Nat _ _) <;> omega
    · refine ⟨?_, ?_, ?_, ?_⟩ <;> (show @Ne Nat _ _) <;> omega
  · exact ⟨fr _ (.tail _ (.tail _ (.head _))) q hq, fr _ (.tail _ (.tail _ (.tail _ (.head _)))) q hq, fr _ (.tail _ (.head _)) q hq, fr _ (.head _) q hq⟩
theorem all (x : XX) : StX (x.1) (x.2.1) (x.2.2.1) (x.2.2.2.1) (x.2.2.2.2.1) (x.2.2.2.2.2.1) (x.2.2.2.2.2.2.1) (x.2.2.2.2.2.2.2.1) (x.2.2.2.2.2.2.2.2.1) (x.2.2.2.2.2.2.2.2.2.1) (x.2.2.2.2.2.2.2.2.2.2.1) (x.2.2.2.2.2.2.2.2.2.2.2.1) (x.2.2.2.2.2.2.2.2.2.2.2.2.1) (x.2.2.2.2.2.2.2.2.2.2.2.2.2.1) (x.2.2.2.2.2.2.2.2.2.2.2.2.2.2.1) (x.2.2.2.2.2.2.2.2.2.2.2.2.2.2.2.1) (x.2.2.2.2.2.2.2.2.2.2.2.2.2.2.2.2.1) (x.2.2.2.2.2.2.2.2.2.2.2.2.2.2.2.2.2.1) (x.2.2.2.2.2.2.2.2.2.2.2.2.2.2.2.2.2.2.1) (x.2.2.2.2.2.2.2.2.2.2.2.2.2.2.2.2.2.2.2.1) (x.2.2.2.2.2.2.2.2.2.2.2.2.2.2.2.2.2.2.2.2.1) (x.2.2.2.2.2.2.2.2.2.2.2.2.2.2.2.2.2.2.2.2.2.1) (x.2.2.2.2.2.2.2.2.2.2.2.2.2.2.2.2.2.2.2.2.2.2.1) (x.2.2.2.2.2.2.2.2.2.2.2.2.2.2.2.2.2.2.2.2.2.2.2.1) (x.2.2.2.2.2.2.2.2.2.2.2.2.2.2.2.2.2.2.2.2.2.2.2.2.1) (x.2.2.2.2.2.2.2.2.2.2.2.2.2.2.2.2.2.2.2.2.2.2.2.2.2.1) (x.2.2.2.2.2.2.2.2.2.2.2.2.2.2.2.2.2.2.2.2.2.2.2.2.2.2.1) (x.2.2.2.2.2.2.2.2.2.2.2.2.2.2.2.2.2.2.2.2.2.2.2.2.2.2.2.1) (x.2.2.2.2.2.2.2.2.2.2.2.2.2.2.2.2.2.2.2.2.2.2.2.2.2.2.2.2.1) (x.2.2.2.2.2.2.2.2.2.2.2.2.2.2.2.2.2.2.2.2.2.2.2.2.2.2.2.2.2.1) (x.2.2.2.2.2.2.2.2.2.2.2.2.2.2.2.2.2.2.2.2.2.2.2.2.2.2.2.2.2.2.1) (x.2.2.2.2.2.2.2.2.2.2.2.2.2.2.2.2.2.2.2.2.2.2.2.2.2.2.2.2.2.2.2.1) (x.2.2.2.2.2.2.2.2.2.2.2.2.2.2.2.2.2.2.2.2.2.2.2.2.2.2.2.2.2.2.2.2) := eps_all (ne := neX) (P := fun x => StX (x.1) (x.2.1) (x.2.2.1) (x.2.2.2.1) (x.2.2.2.2.1) (x.2.2.2.2.2.1) (x.2.2.2.2.2.2.1) (x.2.2.2.2.2.2.2.1) (x.2.2.2.2.2.2.2.2.1) (x.2.2.2.2.2.2.2.2.2.1) (x.2.2.2.2.2.2.2.2.2.2.1) (x.2.2.2.2.2.2.2.2.2.2.2.1) (x.2.2.2.2.2.2.2.2.2.2.2.2.1) (x.2.2.2.2.2.2.2.2.2.2.2.2.2.1) (x.2.2.2.2.2.2.2.2.2.2.2.2.2.2.1) (x.2.2.2.2.2.2.2.2.2.2.2.2.2.2.2.1) (x.2.2.2.2.2.2.2.2.2.2.2.2.2.2.2.2.1) (x.2.2.2.2.2.2.2.2.2.2.2.2.2.2.2.2.2.1) (x.2.2.2.2.2.2.2.2.2.2.2.2.2.2.2.2.2.2.1) (x.2.2.2.2.2.2.2.2.2.2.2.2.2.2.2.2.2.2.2.1) (x.2.2.2.2.2.2.2.2.2.2.2.2.2.2.2.2.2.2.2.2.1) (x.2.2.2.2.2.2.2.2.2.2.2.2.2.2.2.2.2.2.2.2.2.1) (x.2.2.2.2.2.2.2.2.2.2.2.2.2.2.2.2.2.2.2.2.2.2.1) (x.2.2.2.2.2.2.2.2.2.2.2.2.2.2.2.2.2.2.2.2.2.2.2.1) (x.2.2.2.2.2.2.2.2.2.2.2.2.2.2.2.2.2.2.2.2.2.2.2.2.1) (x.2.2.2.2.2.2.2.2.2.2.2.2.2.2.2.2.2.2.2.2.2.2.2.2.2.1) (x.2.2.2.2.2.2.2.2.2.2.2.2.2.2.2.2.2.2.2.2.2.2.2.2.2.2.1) (x.2.2.2.2.2.2.2.2.2.2.2.2.2.2.2.2.2.2.2.2.2.2.2.2.2.2.2.1) (x.2.2.2.2.2.2.2.2.2.2.2.2.2.2.2.2.2.2.2.2.2.2.2.2.2.2.2.2.1) (x.2.2.2.2.2.2.2.2.2.2.2.2.2.2.2.2.2.2.2.2.2.2.2.2.2.2.2.2.2.1) (x.2.2.2.2.2.2.2.2.2.2.2.2.2.2.2.2.2.2.2.2.2.2.2.2.2.2.2.2.2.2.1) (x.2.2.2.2.2.2.2.2.2.2.2.2.2.2.2.2.2.2.2.2.2.2.2.2.2.2.2.2.2.2.2.1) (x.2.2.2.2.2.2.2.2.2.2.2.2.2.2.2.2.2.2.2.2.2.2.2.2.2.2.2.2.2.2.2.2)) (by with_unfolding_all exact core) x
end C_new_ex
theorem new_ex {w : World}
  {p : Program}
  {loose : List PySem.Str}
  {mean : ExcName → Option Value}
  {mg mb : PySem.Str → Option Value}
  {dp un : Nat}
  {gd : Option (List Code)}
  {cn : PySem.Str}
  {cs : Scope}
  {a : Addr}
  {ccd : Value}
  {cl : List (PySem.Str × Addr)}
  {outer : List Env}
  {A₀ : Around}
  {base h₀ : Heap}
  {L : Addr}
  {m : PySem.Str → Option Value}
  {s : Shared}
  {Q E : Value → Shared → Prop}
  {R : List (Addr × Obj)}
  {xh dh lim z : Addr}
  {t1 t2 t3 tn : Tok}
  {last : Int}
  (B : Below A₀ base outer h₀)
  (F : Fr h₀ L s.heap m)
  (X : (hd.heap_1 w.params).In h₀)
  (T : Top p loose mean mg mb h₀)
  (hk : cs.kind = .function)
  (N : News h₀ L s.heap ([(xh, instObj 218 dh), (dh, heapD w.params t1 t2 t3 tn lim last z)] ++ R))
  (hoff : AllOff R [(xh, instObj 218 dh), (dh, heapD w.params t1 t2 t3 tn lim last z)])
  (e1 : @Ne Nat xh dh)
  (hc0 : 0 ≤ last)
  (hc1 : last < 100)
  (hd : dp + 6 < recursionLimit)
  (hu : un + 80 < cLine)
  (ret : ∀ h' tk' x d wk it tn' c1 c2 (θ : Th), Fr h₀ L h' m → News h₀ L h' ([(x, instObj 78 d), (d, θ.obj w.params (last + 1) .none), (wk, listOf #[] c1), (it, listOf #[] c2), (xh, instObj 218 dh), (dh, heapD w.params t1 t2 t3 tn' lim (last + 1) z)] ++ R) →
    θ.cnt = 0 → θ.wk = wk → θ.it = it → θ.dest = false → θ.freed = false →
    (∀ q ∈ [(xh, instObj 218 dh), (dh, heapD w.params t1 t2 t3 tn lim last z)] ++ R, @Ne Nat q.1 x ∧ @Ne Nat q.1 d ∧ @Ne Nat q.1 wk ∧ @Ne Nat q.1 it) → (@Ne Nat d x ∧ @Ne Nat d wk ∧ @Ne Nat d it) → Q (.ref x) { s with heap := h', toks := tk' }) : wpAny (model PySem.Challenge.rw_qz0092_01.row.prog w) (ktrTop dp un gd cn cs L a ccd cl outer) (call (.ref 194) [.ref xh]) Q E s :=
  C_new_ex.all (w, p, loose, mean, mg, mb, dp, un, gd, cn, cs, a, ccd, cl, outer, A₀, base, h₀, L, m, s, Q, E, R, xh, dh, lim, z, t1, t2, t3, tn, last) B F X T hk N hoff e1 hc0 hc1 hd hu ret
end Mine
end
theorem Mine.rs_LawDefs3 : True := by
  w_top off
  trivial
section
open PySem PySem.W PyProof.Rows PySem.Calls LSm
namespace Mine
noncomputable abbrev pa0 {g : Heap} {L : Addr} {h : Heap} {p0 : Addr × Obj} {l : List (Addr × Obj)} (_ : News g L h (p0 :: l)) : Addr × Obj := p0
noncomputable abbrev pa1 {g : Heap} {L : Addr} {h : Heap} {p0 p1 : Addr × Obj} {l : List (Addr × Obj)} (_ : News g L h (p0 :: p1 :: l)) : Addr × Obj := p1
noncomputable abbrev pa2 {g : Heap} {L : Addr} {h : Heap} {p0 p1 p2 : Addr × Obj} {l : List (Addr × Obj)} (_ : News g L h (p0 :: p1 :: p2 :: l)) : Addr × Obj := p2
noncomputable abbrev pa3 {g : Heap} {L : Addr} {h : Heap} {p0 p1 p2 p3 : Addr × Obj} {l : List (Addr × Obj)} (_ : News g L h (p0 :: p1 :: p2 :: p3 :: l)) : Addr × Obj := p3
noncomputable abbrev pa4 {g : Heap} {L : Addr} {h : Heap} {p0 p1 p2 p3 p4 : Addr × Obj} {l : List (Addr × Obj)} (_ : News g L h (p0 :: p1 :: p2 :: p3 :: p4 :: l)) : Addr × Obj := p4
noncomputable abbrev pa5 {g : Heap} {L : Addr} {h : Heap} {p0 p1 p2 p3 p4 p5 : Addr × Obj} {l : List (Addr × Obj)} (_ : News g L h (p0 :: p1 :: p2 :: p3 :: p4 :: p5 :: l)) : Addr × Obj := p5
noncomputable abbrev pa6 {g : Heap} {L : Addr} {h : Heap} {p0 p1 p2 p3 p4 p5 p6 : Addr × Obj} {l : List (Addr × Obj)} (_ : News g L h (p0 :: p1 :: p2 :: p3 :: p4 :: p5 :: p6 :: l)) : Addr × Obj := p6
noncomputable abbrev pa7 {g : Heap} {L : Addr} {h : Heap} {p0 p1 p2 p3 p4 p5 p6 p7 : Addr × Obj} {l : List (Addr × Obj)} (_ : News g L h (p0 :: p1 :: p2 :: p3 :: p4 :: p5 :: p6 :: p7 :: l)) : Addr × Obj := p7
/-- the addresses that stand ahead of the defs -/
noncomputable abbrev olds (cC cP cH cT cO cLt cE xh dh hl el tl od pl : Addr) : List Addr := [cC, cP, cH, cT, cO, cLt, cE, xh, dh, hl, el, tl, od, pl]
theorem nodup20 {a1 a2 a3 a4 a5 a6 a7 c1 c2 c3 c4 c5 c6 c7 b1 b2 b3 b4 b5 b6 : Addr} (h : ([a1, a2, a3, a4, a5, a6, a7] ++ [c1, c2, c3, c4, c5, c6, c7]).Nodup) (lt : ∀ b ∈ [a1, a2, a3, a4, a5, a6, a7] ++ [c1, c2, c3, c4, c5, c6, c7], @LT.lt Nat _ b b3)
    (e1 : @LT.lt Nat _ b3 b1) (e2 : @LT.lt Nat _ b1 b4) (e3 : @LT.lt Nat _ b4 b2) (e4 : @LT.lt Nat _ b2 b6) (e5 : @LT.lt Nat _ b6 b5) : [a1, a2, a3, a4, a5, a6, a7, b1, b2, b3, b4, b5, b6, c1, c2, c3, c4, c5, c6, c7].Nodup := by
  have p : ([a1, a2, a3, a4, a5, a6, a7] ++ ([b1, b2, b3, b4, b5, b6] ++ [c1, c2, c3, c4, c5, c6, c7])).Perm ([b1, b2, b3, b4, b5, b6] ++ ([a1, a2, a3, a4, a5, a6, a7] ++ [c1, c2, c3, c4, c5, c6, c7])) := by
    rw [← List.append_assoc, ← List.append_assoc]
    exact List.Perm.append_right _ List.perm_append_comm
  refine p.symm.nodup (List.nodup_append.mpr ⟨?_, h, fun x hx y hy e => ?_⟩)
  · have ne : ∀ x y : Nat, x < y ∨ y < x → ¬ (x = y) := fun x y h e => by omega
    simp only [List.nodup_cons, List.mem_cons, List.not_mem_nil, or_false, not_or, not_false_eq_true, List.nodup_nil, and_true]
    refine ⟨⟨?_, ?_, ?_, ?_, ?_⟩, ⟨?_, ?_, ?_, ?_⟩, ⟨?_, ?_, ?_⟩, ⟨?_, ?_⟩, ?_⟩ <;> exact ne _ _ (by omega)
  · have h1 := lt y hy
    rw [← e] at h1
    have h2 : @LE.le Nat _ b3 x := by
      replace hx := mem_ors hx
      rcases hx with rfl | rfl | rfl | rfl | rfl | rfl <;> omega
    exact Nat.lt_irrefl _ (Nat.lt_of_lt_of_le h1 h2)
namespace C_law_defs
noncomputable abbrev XX : Type := (World) × (Program) × (List PySem.Str) × (ExcName → Option Value) × (PySem.Str → Option Value) × (PySem.Str → Option Value) × (OwnA) × (List (List Int)) × (List Bool) × (Nat) × (Nat) × (Nat) × (Option (List Code)) × (Addr) × (List Env) × (Around) × (Heap) × (Heap) × (Addr) × (PySem.Str → Option Value) × (Shared) × (Flow → Shared → Prop) × (Value → Shared → Prop) × (Addr) × (Addr) × (Addr) × (Addr) × (Addr) × (Addr) × (Addr) × (Addr) × (Addr) × (Obj) × (Obj) × (Obj) × (Obj) × (Obj) × (Obj) × (Obj) × (Obj) × (Addr) × (Addr) × (Addr) × (Addr) × (Addr) × (Addr) × (Addr) × (Addr) × (Addr) × (Tok) × (Tok) × (Tok) × (Tok) × (Tok) × (Int) × (Nat) × (Nat) × (Nat) × (Nat) × (Nat) × (Nat) × (Nat) × (List Value) × (List Value) × (List Value) × (List Value) × (List Value) × (List Value) × (Nat → Addr) × (Nat → Addr) × (Nat → Addr) × (Nat → Addr) × (Nat → Addr) × (Nat → Nat) × (Nat → Nat) × (Nat → Nat) × (Nat → List Value) × (Nat → Th) × (List Int) × (List Int) × (List (Addr × Obj))
noncomputable def StX (w : World) (p : Program) (loose : List PySem.Str) (mean : ExcName → Option Value) (mg : PySem.Str → Option Value) (mb : PySem.Str → Option Value) (o : OwnA) (plan : List (List Int)) (bl : List Bool) (n : Nat) (dp : Nat) (un : Nat) (gd : Option (List Code)) (a : Addr) (outer : List Env) (A₀ : Around) (base : Heap) (h₀ : Heap) (L : Addr) (m : PySem.Str → Option Value) (s : Shared) (Q : Flow → Shared → Prop) (E : Value → Shared → Prop) (cT : Addr) (cO : Addr) (cLt : Addr) (cH : Addr) (cE : Addr) (cP : Addr) (cC : Addr) (cM : Addr) (cJ : Addr) (oT : Obj) (oO : Obj) (oLt : Obj) (oH : Obj) (oE : Obj) (oP : Obj) (oC : Obj) (oM : Obj) (tl : Addr) (hl : Addr) (el : Addr) (xh : Addr) (dh : Addr) (z : Addr) (lim : Addr) (P : Addr) (Pe : Addr) (h1 : Tok) (h2 : Tok) (h3 : Tok) (hn : Tok) (tm : Tok) (last : Int) (ce : Nat) (nh : Nat) (nz : Nat) (nt : Nat) (cP' : Nat) (cE' : Nat) (c6 : Nat) (vh : List Value) (vh2 : List Value) (vd : List Value) (vf : List Value) (pls : List Value) (pes : List Value) (x : Nat → Addr) (d : Nat → Addr) (wk : Nat → Addr) (it : Nat → Addr) (q : Nat → Addr) (nw : Nat → Nat) (ni : Nat → Nat) (cq : Nat → Nat) (pv : Nat → List Value) (θ : Nat → Th) (ps : List Int) (es : List Int) (RR : List (Addr × Obj)) : Prop :=
  ∀ (S : S) (OW : OwnOk w o plan bl n) (hvp : o.vp.length = n) (B : Below A₀ base outer h₀) (F : Fr h₀ L s.heap m) (X : (hd.heap_1 w.params).In h₀) (T : Top p loose mean mg mb h₀) (CH : CodeHd h₀ 429 427) (N : News h₀ L s.heap ([(cT, oT), (cO, oO), (cLt, oLt), (cH, oH), (cE, oE), (cP, oP), (cC, oC), (cM, oM), (427, tabObj #[])] ++ RR)) (d1 : oT.data = .cell (some (.ref tl))) (d2 : oO.data = .cell (some (.ref o.od))) (d3 : oLt.data = .cell none) (d4 : oH.data = .cell (some (.ref hl))) (d5 : oE.data = .cell (some (.ref el))) (d6 : oP.data = .cell (some (.ref xh))) (d7 : oC.data = .cell none) (d8 : oM.data = .cell (some (.int (n : Int) tm))) (k0 : @LT.lt Nat _ 427 L) (k1 : @LT.lt Nat _ L cJ) (k2 : @LT.lt Nat _ cJ cM) (k3 : @LT.lt Nat _ cM cC) (k4 : @LT.lt Nat _ cC cP) (k5 : @LT.lt Nat _ cP cE) (k6 : @LT.lt Nat _ cE cH) (k7 : @LT.lt Nat _ cH cLt) (k8 : @LT.lt Nat _ cLt cO) (k9 : @LT.lt Nat _ cO cT) (u2 : ∀ q ∈ RR, q.1 ≠ cLt) (u6 : ∀ q ∈ RR, q.1 ≠ cC) (u7 : ∀ q ∈ RR, q.1 ≠ 427) (r1 : (el, listOf #[] ce) ∈ RR) (r2 : (hl, listOf vh.toArray nh) ∈ RR) (r3 : (z, listOf #[] nz) ∈ RR) (r4 : (xh, instObj 218 dh) ∈ RR) (r5 : (dh, heapD w.params h1 h2 h3 hn lim last z) ∈ RR) (r6 : (tl, listOf ((List.range n).map fun j => Value.ref (x j)).toArray nt) ∈ RR) (r7 : ∀ q ∈ o.ex vh2 vd vf [] c6, q ∈ RR) (r8 : ∀ j, j < n → (d j, (θ j).obj w.params ((j : Int) + 1) .none) ∈ RR ∧ (x j, instObj 78 (d j)) ∈ RR ∧ (wk j, listOf #[] (nw j)) ∈ RR ∧ (it j, listOf #[] (ni j)) ∈ RR ∧ (q j, listOf (pv j).toArray (cq j)) ∈ RR) (r9 : (P, listOf pls.toArray cP') ∈ RR) (r10 : (Pe, listOf pes.toArray cE') ∈ RR) (nd14 : (olds cC cP cH cT cO cLt cE xh dh hl el tl o.od o.pl).Nodup) (hzo : z ∉ olds cC cP cH cT cO cLt cE xh dh hl el tl o.od o.pl) (dne : ∀ i j, i < n → j < n → i ≠ j → @Ne Nat (d i) (d j)) (dro : ∀ i j, i < n → j < n → @Ne Nat (d i) (x j) ∧ @Ne Nat (d i) (wk j) ∧ @Ne Nat (d i) (it j) ∧ @Ne Nat (d i) (q j)) (dB : ∀ j, j < n → ∀ b ∈ z :: olds cC cP cH cT cO cLt cE xh dh hl el tl o.od o.pl, @Ne Nat b (d j) ∧ @Ne Nat b (x j) ∧ @Ne Nat b (wk j) ∧ @Ne Nat b (it j) ∧ @Ne Nat b (q j)) (oB : ∀ b ∈ [o.hl, o.dl, o.fl, o.bll, o.gl, cM, P, Pe, 427], b ∉ z :: olds cC cP cH cT cO cLt cE xh dh hl el tl o.od o.pl ∧ ∀ j, j < n → @Ne Nat b (d j) ∧ @Ne Nat b (x j) ∧ @Ne Nat b (wk j) ∧ @Ne Nat b (it j) ∧ @Ne Nat b (q j)) (oR : ∀ b ∈ [cM, P, Pe, 427], b ∉ o.adr) (items : ∀ j, j < n → o.vp[j]? = some (.ref (q j)) ∧ IntsAre (pv j) (plan.getD j [])) (hth : ∀ j, j < n → (θ j).cnt = 0 ∧ (θ j).wk = wk j ∧ (θ j).it = it j ∧ (θ j).dest = false ∧ (θ j).freed = false) (g1 : BoolsAre vh S.held) (g3 : BoolsAre vh2 S.held) (g4 : BoolsAre vd S.done) (g5 : BoolsAre vf S.freed) (g6 : S.log = []) (gl : S.Len n) (hS0 : ∀ j, j < n → S.held.getD j false = true ∧ S.done.getD j false = false ∧ S.freed.getD j false = false) (hpl : m (PySem.Str.ofString "listed") = some (.ref P)) (hps : IntsAre pls ps) (hin : ∀ q ∈ ps, 0 ≤ q ∧ q < (n : Int)) (hlp : ps.length ≤ 10) (hpe : m (PySem.Str.ofString "early") = some (.ref Pe)) (hes : IntsAre pes es) (hine : ∀ q ∈ es, 0 ≤ q ∧ q < (n : Int)) (hd : dp + 60 < recursionLimit) (hu : un + 600 < cLine) (ret : ∀ h' tk' m', Fr h₀ L h' m' → GrownAt 427 h' → Q (.ret (.bool true)) { s with heap := h', toks := tk' }), wpAny (model Pr w) (ktrTop dp un gd (PySem.Str.ofString "law") lawScope L a (.ref 429) (lawClA cT cO cLt cH cE cP cC cM cJ) outer) (execs (lawRest 9) (envX (PySem.Str.ofString "law") lawScope L a (.ref 429) (lawClA cT cO cLt cH cE cP cC cM cJ))) Q E s
theorem neX : Nonempty XX := by
  refine ⟨?_⟩
  repeat' (first | exact default | exact aWorld 1 | constructor | intro _)
noncomputable def cX : XX := @Classical.epsilon XX neX fun x => ¬ StX (x.1) (x.2.1) (x.2.2.1) (x.2.2.2.1) (x.2.2.2.2.1) (x.2.2.2.2.2.1) (x.2.2.2.2.2.2.1) (x.2.2.2.2.2.2.2.1) (x.2.2.2.2.2.2.2.2.1) (x.2.2.2.2.2.2.2.2.2.1) (x.2.2.2.2.2.2.2.2.2.2.1) (x.2.2.2.2.2.2.2.2.2.2.2.1) (x.2.2.2.2.2.2.2.2.2.2.2.2.1) (x.2.2.2.2.2.2.2.2.2.2.2.2.2.1) (x.2.2.2.2.2.2.2.2.2.2.2.2.2.2.1) (x.2.2.2.2.2.2.2.2.2.2.2.2.2.2.2.1) (x.2.2.2.2.2.2.2.2.2.2.2.2.2.2.2.2.1) (x.2.2.2.2.2.2.2.2.2.2.2.2.2.2.2.2.2.1) (x.2.2.2.2.2.2.2.2.2.2.2.2.2.2.2.2.2.2.1) (x.2.2.2.2.2.2.2.2.2.2.2.2.2.2.2.2.2.2.2.1) (x.2.2.2.2.2.2.2.2.2.2.2.2.2.2.2.2.2.2.2.2.1) (x.2.2.2.2.2.2.2.2.2.2.2.2.2.2.2.2.2.2.2.2.2.1) (x.2.2.2.2.2.2.2.2.2.2.2.2.2.2.2.2.2.2.2.2.2.2.1) (x.2.2.2.2.2.2.2.2.2.2.2.2.2.2.2.2.2.2.2.2.2.2.2.1) (x.2.2.2.2.2.2.2.2.2.2.2.2.2.2.2.2.2.2.2.2.2.2.2.2.1) (x.2.2.2.2.2.2.2.2.2.2.2.2.2.2.2.2.2.2.2.2.2.2.2.2.2.1) (x.2.2.2.2.2.2.2.2.2.2.2.2.2.2.2.2.2.2.2.2.2.2.2.2.2.2.1) (x.2.2.2.2.2.2.2.2.2.2.2.2.2.2.2.2.2.2.2.2.2.2.2.2.2.2.2.1) (x.2.2.2.2.2.2.2.2.2.2.2.2.2.2.2.2.2.2.2.2.2.2.2.2.2.2.2.2.1) (x.2.2.2.2.2.2.2.2.2.2.2.2.2.2.2.2.2.2.2.2.2.2.2.2.2.2.2.2.2.1) (x.2.2.2.2.2.2.2.2.2.2.2.2.2.2.2.2.2.2.2.2.2.2.2.2.2.2.2.2.2.2.1) (x.2.2.2.2.2.2.2.2.2.2.2.2.2.2.2.2.2.2.2.2.2.2.2.2.2.2.2.2.2.2.2.1) (x.2.2.2.2.2.2.2.2.2.2.2.2.2.2.2.2.2.2.2.2.2.2.2.2.2.2.2.2.2.2.2.2.1) (x.2.2.2.2.2.2.2.2.2.2.2.2.2.2.2.2.2.2.2.2.2.2.2.2.2.2.2.2.2.2.2.2.2.1) (x.2.2.2.2.2.2.2.2.2.2.2.2.2.2.2.2.2.2.2.2.2.2.2.2.2.2.2.2.2.2.2.2.2.2.1) (x.2.2.2.2.2.2.2.2.2.2.2.2.2.2.2.2.2.2.2.2.2.2.2.2.2.2.2.2.2.2.2.2.2.2.2.1) (x.2.2.2.2.2.2.2.2.2.2.2.2.2.2.2.2.2.2.2.2.2.2.2.2.2.2.2.2.2.2.2.2.2.2.2.2.1) (x.2.2.2.2.2.2.2.2.2.2.2.2.2.2.2.2.2.2.2.2.2.2.2.2.2.2.2.2.2.2.2.2.2.2.2.2.2.1) (x.2.2.2.2.2.2.2.2.2.2.2.2.2.2.2.2.2.2.2.2.2.2.2.2.2.2.2.2.2.2.2.2.2.2.2.2.2.2.1) (x.2.2.2.2.2.2.2.2.2.2.2.2.2.2.2.2.2.2.2.2.2.2.2.2.2.2.2.2.2.2.2.2.2.2.2.2.2.2.2.1) (x.2.2.2.2.2.2.2.2.2.2.2.2.2.2.2.2.2.2.2.2.2.2.2.2.2.2.2.2.2.2.2.2.2.2.2.2.2.2.2.2.1) (x.2.2.2.2.2.2.2.2.2.2.2.2.2.2.2.2.2.2.2.2.2.2.2.2.2.2.2.2.2.2.2.2.2.2.2.2.2.2.2.2.2.1) (x.2.2.2.2.2.2.2.2.2.2.2.2.2.2.2.2.2.2.2.2.2.2.2.2.2.2.2.2.2.2.2.2.2.2.2.2.2.2.2.2.2.2.1) (x.2.2.2.2.2.2.2.2.2.2.2.2.2.2.2.2.2.2.2.2.2.2.2.2.2.2.2.2.2.2.2.2.2.2.2.2.2.2.2.2.2.2.2.1) (x.2.2.2.2.2.2.2.2.2.2.2.2.2.2.2.2.2.2.2.2.2.2.2.2.2.2.2.2.2.2.2.2.2.2.2.2.2.2.2.2.2.2.2.2.1) (x.2.2.2.2.2.2.2.2.2.2.2.2.2.2.2.2.2.2.2.2.2.2.2.2.2.2.2.2.2.2.2.2.2.2.2.2.2.2.2.2.2.2.2.2.2.1) (x.2.2.2.2.2.2.2.2.2.2.2.2.2.2.2.2.2.2.2.2.2.2.2.2.2.2.2.2.2.2.2.2.2.2.2.2.2.2.2.2.2.2.2.2.2.2.1) (x.2.2.2.2.2.2.2.2.2.2.2.2.2.2.2.2.2.2.2.2.2.2.2.2.2.2.2.2.2.2.2.2.2.2.2.2.2.2.2.2.2.2.2.2.2.2.2.1) (x.2.2.2.2.2.2.2.2.2.2.2.2.2.2.2.2.2.2.2.2.2.2.2.2.2.2.2.2.2.2.2.2.2.2.2.2.2.2.2.2.2.2.2.2.2.2.2.2.1) (x.2.2.2.2.2.2.2.2.2.2.2.2.2.2.2.2.2.2.2.2.2.2.2.2.2.2.2.2.2.2.2.2.2.2.2.2.2.2.2.2.2.2.2.2.2.2.2.2.2.1) (x.2.2.2.2.2.2.2.2.2.2.2.2.2.2.2.2.2.2.2.2.2.2.2.2.2.2.2.2.2.2.2.2.2.2.2.2.2.2.2.2.2.2.2.2.2.2.2.2.2.2.1) (x.2.2.2.2.2.2.2.2.2.2.2.2.2.2.2.2.2.2.2.2.2.2.2.2.2.2.2.2.2.2.2.2.2.2.2.2.2.2.2.2.2.2.2.2.2.2.2.2.2.2.2.1) (x.2.2.2.2.2.2.2.2.2.2.2.2.2.2.2.2.2.2.2.2.2.2.2.2.2.2.2.2.2.2.2.2.2.2.2.2.2.2.2.2.2.2.2.2.2.2.2.2.2.2.2.2.1) (x.2.2.2.2.2.2.2.2.2.2.2.2.2.2.2.2.2.2.2.2.2.2.2.2.2.2.2.2.2.2.2.2.2.2.2.2.2.2.2.2.2.2.2.2.2.2.2.2.2.2.2.2.2.1) (x.2.2.2.2.2.2.2.2.2.2.2.2.2.2.2.2.2.2.2.2.2.2.2.2.2.2.2.2.2.2.2.2.2.2.2.2.2.2.2.2.2.2.2.2.2.2.2.2.2.2.2.2.2.2.1) (x.2.2.2.2.2.2.2.2.2.2.2.2.2.2.2.2.2.2.2.2.2.2.2.2.2.2.2.2.2.2.2.2.2.2.2.2.2.2.2.2.2.2.2.2.2.2.2.2.2.2.2.2.2.2.2.1) (x.2.2.2.2.2.2.2.2.2.2.2.2.2.2.2.2.2.2.2.2.2.2.2.2.2.2.2.2.2.2.2.2.2.2.2.2.2.2.2.2.2.2.2.2.2.2.2.2.2.2.2.2.2.2.2.2.1) (x.2.2.2.2.2.2.2.2.2.2.2.2.2.2.2.2.2.2.2.2.2.2.2.2.2.2.2.2.2.2.2.2.2.2.2.2.2.2.2.2.2.2.2.2.2.2.2.2.2.2.2.2.2.2.2.2.2.1) (x.2.2.2.2.2.2.2.2.2.2.2.2.2.2.2.2.2.2.2.2.2.2.2.2.2.2.2.2.2.2.2.2.2.2.2.2.2.2.2.2.2.2.2.2.2.2.2.2.2.2.2.2.2.2.2.2.2.2.1) (x.2.2.2.2.2.2.2.2.2.2.2.2.2.2.2.2.2.2.2.2.2.2.2.2.2.2.2.2.2.2.2.2.2.2.2.2.2.2.2.2.2.2.2.2.2.2.2.2.2.2.2.2.2.2.2.2.2.2.2.1) (x.2.2.2.2.2.2.2.2.2.2.2.2.2.2.2.2.2.2.2.2.2.2.2.2.2.2.2.2.2.2.2.2.2.2.2.2.2.2.2.2.2.2.2.2.2.2.2.2.2.2.2.2.2.2.2.2.2.2.2.2.1) (x.2.2.2.2.2.2.2.2.2.2.2.2.2.2.2.2.2.2.2.2.2.2.2.2.2.2.2.2.2.2.2.2.2.2.2.2.2.2.2.2.2.2.2.2.2.2.2.2.2.2.2.2.2.2.2.2.2.2.2.2.2.1) (x.2.2.2.2.2.2.2.2.2.2.2.2.2.2.2.2.2.2.2.2.2.2.2.2.2.2.2.2.2.2.2.2.2.2.2.2.2.2.2.2.2.2.2.2.2.2.2.2.2.2.2.2.2.2.2.2.2.2.2.2.2.2.1) (x.2.2.2.2.2.2.2.2.2.2.2.2.2.2.2.2.2.2.2.2.2.2.2.2.2.2.2.2.2.2.2.2.2.2.2.2.2.2.2.2.2.2.2.2.2.2.2.2.2.2.2.2.2.2.2.2.2.2.2.2.2.2.2.1) (x.2.2.2.2.2.2.2.2.2.2.2.2.2.2.2.2.2.2.2.2.2.2.2.2.2.2.2.2.2.2.2.2.2.2.2.2.2.2.2.2.2.2.2.2.2.2.2.2.2.2.2.2.2.2.2.2.2.2.2.2.2.2.2.2.1) (x.2.2.2.2.2.2.2.2.2.2.2.2.2.2.2.2.2.2.2.2.2.2.2.2.2.2.2.2.2.2.2.2.2.2.2.2.2.2.2.2.2.2.2.2.2.2.2.2.2.2.2.2.2.2.2.2.2.2.2.2.2.2.2.2.2.1) (x.2.2.2.2.2.2.2.2.2.2.2.2.2.2.2.2.2.2.2.2.2.2.2.2.2.2.2.2.2.2.2.2.2.2.2.2.2.2.2.2.2.2.2.2.2.2.2.2.2.2.2.2.2.2.2.2.2.2.2.2.2.2.2.2.2.2.1) (x.2.2.2.2.2.2.2.2.2.2.2.2.2.2.2.2.2.2.2.2.2.2.2.2.2.2.2.2.2.2.2.2.2.2.2.2.2.2.2.2.2.2.2.2.2.2.2.2.2.2.2.2.2.2.2.2.2.2.2.2.2.2.2.2.2.2.2.1) (x.2.2.2.2.2.2.2.2.2.2.2.2.2.2.2.2.2.2.2.2.2.2.2.2.2.2.2.2.2.2.2.2.2.2.2.2.2.2.2.2.2.2.2.2.2.2.2.2.2.2.2.2.2.2.2.2.2.2.2.2.2.2.2.2.2.2.2.2.1) (x.2.2.2.2.2.2.2.2.2.2.2.2.2.2.2.2.2.2.2.2.2.2.2.2.2.2.2.2.2.2.2.2.2.2.2.2.2.2.2.2.2.2.2.2.2.2.2.2.2.2.2.2.2.2.2.2.2.2.2.2.2.2.2.2.2.2.2.2.2.1) (x.2.2.2.2.2.2.2.2.2.2.2.2.2.2.2.2.2.2.2.2.2.2.2.2.2.2.2.2.2.2.2.2.2.2.2.2.2.2.2.2.2.2.2.2.2.2.2.2.2.2.2.2.2.2.2.2.2.2.2.2.2.2.2.2.2.2.2.2.2.2.1) (x.2.2.2.2.2.2.2.2.2.2.2.2.2.2.2.2.2.2.2.2.2.2.2.2.2.2.2.2.2.2.2.2.2.2.2.2.2.2.2.2.2.2.2.2.2.2.2.2.2.2.2.2.2.2.2.2.2.2.2.2.2.2.2.2.2.2.2.2.2.2.2.1) (x.2.2.2.2.2.2.2.2.2.2.2.2.2.2.2.2.2.2.2.2.2.2.2.2.2.2.2.2.2.2.2.2.2.2.2.2.2.2.2.2.2.2.2.2.2.2.2.2.2.2.2.2.2.2.2.2.2.2.2.2.2.2.2.2.2.2.2.2.2.2.2.2.1) (x.2.2.2.2.2.2.2.2.2.2.2.2.2.2.2.2.2.2.2.2.2.2.2.2.2.2.2.2.2.2.2.2.2.2.2.2.2.2.2.2.2.2.2.2.2.2.2.2.2.2.2.2.2.2.2.2.2.2.2.2.2.2.2.2.2.2.2.2.2.2.2.2.2.1) (x.2.2.2.2.2.2.2.2.2.2.2.2.2.2.2.2.2.2.2.2.2.2.2.2.2.2.2.2.2.2.2.2.2.2.2.2.2.2.2.2.2.2.2.2.2.2.2.2.2.2.2.2.2.2.2.2.2.2.2.2.2.2.2.2.2.2.2.2.2.2.2.2.2.2.1) (x.2.2.2.2.2.2.2.2.2.2.2.2.2.2.2.2.2.2.2.2.2.2.2.2.2.2.2.2.2.2.2.2.2.2.2.2.2.2.2.2.2.2.2.2.2.2.2.2.2.2.2.2.2.2.2.2.2.2.2.2.2.2.2.2.2.2.2.2.2.2.2.2.2.2.2.1) (x.2.2.2.2.2.2.2.2.2.2.2.2.2.2.2.2.2.2.2.2.2.2.2.2.2.2.2.2.2.2.2.2.2.2.2.2.2.2.2.2.2.2.2.2.2.2.2.2.2.2.2.2.2.2.2.2.2.2.2.2.2.2.2.2.2.2.2.2.2.2.2.2.2.2.2.2.1) (x.2.2.2.2.2.2.2.2.2.2.2.2.2.2.2.2.2.2.2.2.2.2.2.2.2.2.2.2.2.2.2.2.2.2.2.2.2.2.2.2.2.2.2.2.2.2.2.2.2.2.2.2.2.2.2.2.2.2.2.2.2.2.2.2.2.2.2.2.2.2.2.2.2.2.2.2.2.1) (x.2.2.2.2.2.2.2.2.2.2.2.2.2.2.2.2.2.2.2.2.2.2.2.2.2.2.2.2.2.2.2.2.2.2.2.2.2.2.2.2.2.2.2.2.2.2.2.2.2.2.2.2.2.2.2.2.2.2.2.2.2.2.2.2.2.2.2.2.2.2.2.2.2.2.2.2.2.2.1) (x.2.2.2.2.2.2.2.2.2.2.2.2.2.2.2.2.2.2.2.2.2.2.2.2.2.2.2.2.2.2.2.2.2.2.2.2.2.2.2.2.2.2.2.2.2.2.2.2.2.2.2.2.2.2.2.2.2.2.2.2.2.2.2.2.2.2.2.2.2.2.2.2.2.2.2.2.2.2.2.1) (x.2.2.2.2.2.2.2.2.2.2.2.2.2.2.2.2.2.2.2.2.2.2.2.2.2.2.2.2.2.2.2.2.2.2.2.2.2.2.2.2.2.2.2.2.2.2.2.2.2.2.2.2.2.2.2.2.2.2.2.2.2.2.2.2.2.2.2.2.2.2.2.2.2.2.2.2.2.2.2.2)
@[irreducible] noncomputable def w := cX.1
@[irreducible] noncomputable def p := cX.2.1
@[irreducible] noncomputable def loose := cX.2.2.1
@[irreducible] noncomputable def mean := cX.2.2.2.1
@[irreducible] noncomputable def mg := cX.2.2.2.2.1
@[irreducible] noncomputable def mb := cX.2.2.2.2.2.1
@[irreducible] noncomputable def o := cX.2.2.2.2.2.2.1
@[irreducible] noncomputable def plan := cX.2.2.2.2.2.2.2.1
@[irreducible] noncomputable def bl := cX.2.2.2.2.2.2.2.2.1
@[irreducible] noncomputable def n := cX.2.2.2.2.2.2.2.2.2.1
@[irreducible] noncomputable def dp := cX.2.2.2.2.2.2.2.2.2.2.1
@[irreducible] noncomputable def un := cX.2.2.2.2.2.2.2.2.2.2.2.1
@[irreducible] noncomputable def gd := cX.2.2.2.2.2.2.2.2.2.2.2.2.1
@[irreducible] noncomputable def a := cX.2.2.2.2.2.2.2.2.2.2.2.2.2.1
@[irreducible] noncomputable def outer := cX.2.2.2.2.2.2.2.2.2.2.2.2.2.2.1
@[irreducible] noncomputable def A₀ := cX.2.2.2.2.2.2.2.2.2.2.2.2.2.2.2.1
@[irreducible] noncomputable def base := cX.2.2.2.2.2.2.2.2.2.2.2.2.2.2.2.2.1
@[irreducible] noncomputable def h₀ := cX.2.2.2.2.2.2.2.2.2.2.2.2.2.2.2.2.2.1
@[irreducible] noncomputable def L := cX.2.2.2.2.2.2.2.2.2.2.2.2.2.2.2.2.2.2.1
@[irreducible] noncomputable def m := cX.2.2.2.2.2.2.2.2.2.2.2.2.2.2.2.2.2.2.2.1
@[irreducible] noncomputable def s := cX.2.2.2.2.2.2.2.2.2.2.2.2.2.2.2.2.2.2.2.2.1
@[irreducible] noncomputable def Q := cX.2.2.2.2.2.2.2.2.2.2.2.2.2.2.2.2.2.2.2.2.2.1
@[irreducible] noncomputable def E := cX.2.2.2.2.2.2.2.2.2.2.2.2.2.2.2.2.2.2.2.2.2.2.1
@[irreducible] noncomputable def cT := cX.2.2.2.2.2.2.2.2.2.2.2.2.2.2.2.2.2.2.2.2.2.2.2.1
@[irreducible] noncomputable def cO := cX.2.2.2.2.2.2.2.2.2.2.2.2.2.2.2.2.2.2.2.2.2.2.2.2.1
@[irreducible] noncomputable def cLt := cX.2.2.2.2.2.2.2.2.2.2.2.2.2.2.2.2.2.2.2.2.2.2.2.2.2.1
@[irreducible] noncomputable def cH := cX.2.2.2.2.2.2.2.2.2.2.2.2.2.2.2.2.2.2.2.2.2.2.2.2.2.2.1
@[irreducible] noncomputable def cE := cX.2.2.2.2.2.2.2.2.2.2.2.2.2.2.2.2.2.2.2.2.2.2.2.2.2.2.2.1
@[irreducible] noncomputable def cP := cX.2.2.2.2.2.2.2.2.2.2.2.2.2.2.2.2.2.2.2.2.2.2.2.2.2.2.2.2.1
@[irreducible] noncomputable def cC := cX.2.2.2.2.2.2.2.2.2.2.2.2.2.2.2.2.2.2.2.2.2.2.2.2.2.2.2.2.2.1
@[irreducible] noncomputable def cM := cX.2.2.2.2.2.2.2.2.2.2.2.2.2.2.2.2.2.2.2.2.2.2.2.2.2.2.2.2.2.2.1
@[irreducible] noncomputable def cJ := cX.2.2.2.2.2.2.2.2.2.2.2.2.2.2.2.2.2.2.2.2.2.2.2.2.2.2.2.2.2.2.2.1
@[irreducible] noncomputable def oT := cX.2.2.2.2.2.2.2.2.2.2.2.2.2.2.2.2.2.2.2.2.2.2.2.2.2.2.2.2.2.2.2.2.1
@[irreducible] noncomputable def oO := cX.2.2.2.2.2.2.2.2.2.2.2.2.2.2.2.2.2.2.2.2.2.2.2.2.2.2.2.2.2.2.2.2.2.1
@[irreducible] noncomputable def oLt := cX.2.2.2.2.2.2.2.2.2.2.2.2.2.2.2.2.2.2.2.2.2.2.2.2.2.2.2.2.2.2.2.2.2.2.1
@[irreducible] noncomputable def oH := cX.2.2.2.2.2.2.2.2.2.2.2.2.2.2.2.2.2.2.2.2.2.2.2.2.2.2.2.2.2.2.2.2.2.2.2.1
@[irreducible] noncomputable def oE := cX.2.2.2.2.2.2.2.2.2.2.2.2.2.2.2.2.2.2.2.2.2.2.2.2.2.2.2.2.2.2.2.2.2.2.2.2.1
@[irreducible] noncomputable def oP := cX.2.2.2.2.2.2.2.2.2.2.2.2.2.2.2.2.2.2.2.2.2.2.2.2.2.2.2.2.2.2.2.2.2.2.2.2.2.1
@[irreducible] noncomputable def oC := cX.2.2.2.2.2.2.2.2.2.2.2.2.2.2.2.2.2.2.2.2.2.2.2.2.2.2.2.2.2.2.2.2.2.2.2.2.2.2.1
@[irreducible] noncomputable def oM := cX.2.2.2.2.2.2.2.2.2.2.2.2.2.2.2.2.2.2.2.2.2.2.2.2.2.2.2.2.2.2.2.2.2.2.2.2.2.2.2.1
@[irreducible] noncomputable def tl := cX.2.2.2.2.2.2.2.2.2.2.2.2.2.2.2.2.2.2.2.2.2.2.2.2.2.2.2.2.2.2.2.2.2.2.2.2.2.2.2.2.1
@[irreducible] noncomputable def hl := cX.2.2.2.2.2.2.2.2.2.2.2.2.2.2.2.2.2.2.2.2.2.2.2.2.2.2.2.2.2.2.2.2.2.2.2.2.2.2.2.2.2.1
@[irreducible] noncomputable def el := cX.2.2.2.2.2.2.2.2.2.2.2.2.2.2.2.2.2.2.2.2.2.2.2.2.2.2.2.2.2.2.2.2.2.2.2.2.2.2.2.2.2.2.1
@[irreducible] noncomputable def xh := cX.2.2.2.2.2.2.2.2.2.2.2.2.2.2.2.2.2.2.2.2.2.2.2.2.2.2.2.2.2.2.2.2.2.2.2.2.2.2.2.2.2.2.2.1
@[irreducible] noncomputable def dh := cX.2.2.2.2.2.2.2.2.2.2.2.2.2.2.2.2.2.2.2.2.2.2.2.2.2.2.2.2.2.2.2.2.2.2.2.2.2.2.2.2.2.2.2.2.1
@[irreducible] noncomputable def z := cX.2.2.2.2.2.2.2.2.2.2.2.2.2.2.2.2.2.2.2.2.2.2.2.2.2.2.2.2.2.2.2.2.2.2.2.2.2.2.2.2.2.2.2.2.2.1
@[irreducible] noncomputable def lim := cX.2.2.2.2.2.2.2.2.2.2.2.2.2.2.2.2.2.2.2.2.2.2.2.2.2.2.2.2.2.2.2.2.2.2.2.2.2.2.2.2.2.2.2.2.2.2.1
@[irreducible] noncomputable def P := cX.2.2.2.2.2.2.2.2.2.2.2.2.2.2.2.2.2.2.2.2.2.2.2.2.2.2.2.2.2.2.2.2.2.2.2.2.2.2.2.2.2.2.2.2.2.2.2.1
@[irreducible] noncomputable def Pe := cX.2.2.2.2.2.2.2.2.2.2.2.2.2.2.2.2.2.2.2.2.2.2.2.2.2.2.2.2.2.2.2.2.2.2.2.2.2.2.2.2.2.2.2.2.2.2.2.2.1
@[irreducible] noncomputable def h1 := cX.2.2.2.2.2.2.2.2.2.2.2.2.2.2.2.2.2.2.2.2.2.2.2.2.2.2.2.2.2.2.2.2.2.2.2.2.2.2.2.2.2.2.2.2.2.2.2.2.2.1
@[irreducible] noncomputable def h2 := cX.2.2.2.2.2.2.2.2.2.2.2.2.2.2.2.2.2.2.2.2.2.2.2.2.2.2.2.2.2.2.2.2.2.2.2.2.2.2.2.2.2.2.2.2.2.2.2.2.2.2.1
@[irreducible] noncomputable def h3 := cX.2.2.2.2.2.2.2.2.2.2.2.2.2.2.2.2.2.2.2.2.2.2.2.2.2.2.2.2.2.2.2.2.2.2.2.2.2.2.2.2.2.2.2.2.2.2.2.2.2.2.2.1
@[irreducible] noncomputable def hn := cX.2.2.2.2.2.2.2.2.2.2.2.2.2.2.2.2.2.2.2.2.2.2.2.2.2.2.2.2.2.2.2.2.2.2.2.2.2.2.2.2.2.2.2.2.2.2.2.2.2.2.2.2.1
@[irreducible] noncomputable def tm := cX.2.2.2.2.2.2.2.2.2.2.2.2.2.2.2.2.2.2.2.2.2.2.2.2.2.2.2.2.2.2.2.2.2.2.2.2.2.2.2.2.2.2.2.2.2.2.2.2.2.2.2.2.2.1
@[irreducible] noncomputable def last := cX.2.2.2.2.2.2.2.2.2.2.2.2.2.2.2.2.2.2.2.2.2.2.2.2.2.2.2.2.2.2.2.2.2.2.2.2.2.2.2.2.2.2.2.2.2.2.2.2.2.2.2.2.2.2.1
@[irreducible] noncomputable def ce := cX.2.2.2.2.2.2.2.2.2.2.2.2.2.2.2.2.2.2.2.2.2.2.2.2.2.2.2.2.2.2.2.2.2.2.2.2.2.2.2.2.2.2.2.2.2.2.2.2.2.2.2.2.2.2.2.1
@[irreducible] noncomputable def nh := cX.2.2.2.2.2.2.2.2.2.2.2.2.2.2.2.2.2.2.2.2.2.2.2.2.2.2.2.2.2.2.2.2.2.2.2.2.2.2.2.2.2.2.2.2.2.2.2.2.2.2.2.2.2.2.2.2.1
@[irreducible] noncomputable def nz := cX.2.2.2.2.2.2.2.2.2.2.2.2.2.2.2.2.2.2.2.2.2.2.2.2.2.2.2.2.2.2.2.2.2.2.2.2.2.2.2.2.2.2.2.2.2.2.2.2.2.2.2.2.2.2.2.2.2.1
@[irreducible] noncomputable def nt := cX.2.2.2.2.2.2.2.2.2.2.2.2.2.2.2.2.2.2.2.2.2.2.2.2.2.2.2.2.2.2.2.2.2.2.2.2.2.2.2.2.2.2.2.2.2.2.2.2.2.2.2.2.2.2.2.2.2.2.1
@[irreducible] noncomputable def cP' := cX.2.2.2.2.2.2.2.2.2.2.2.2.2.2.2.2.2.2.2.2.2.2.2.2.2.2.2.2.2.2.2.2.2.2.2.2.2.2.2.2.2.2.2.2.2.2.2.2.2.2.2.2.2.2.2.2.2.2.2.1
@[irreducible] noncomputable def cE' := cX.2.2.2.2.2.2.2.2.2.2.2.2.2.2.2.2.2.2.2.2.2.2.2.2.2.2.2.2.2.2.2.2.2.2.2.2.2.2.2.2.2.2.2.2.2.2.2.2.2.2.2.2.2.2.2.2.2.2.2.2.1
@[irreducible] noncomputable def c6 := cX.2.2.2.2.2.2.2.2.2.2.2.2.2.2.2.2.2.2.2.2.2.2.2.2.2.2.2.2.2.2.2.2.2.2.2.2.2.2.2.2.2.2.2.2.2.2.2.2.2.2.2.2.2.2.2.2.2.2.2.2.2.1
@[irreducible] noncomputable def vh := cX.2.2.2.2.2.2.2.2.2.2.2.2.2.2.2.2.2.2.2.2.2.2.2.2.2.2.2.2.2.2.2.2.2.2.2.2.2.2.2.2.2.2.2.2.2.2.2.2.2.2.2.2.2.2.2.2.2.2.2.2.2.2.1
@[irreducible] noncomputable def vh2 := cX.2.2.2.2.2.2.2.2.2.2.2.2.2.2.2.2.2.2.2.2.2.2.2.2.2.2.2.2.2.2.2.2.2.2.2.2.2.2.2.2.2.2.2.2.2.2.2.2.2.2.2.2.2.2.2.2.2.2.2.2.2.2.2.1
@[irreducible] noncomputable def vd := cX.2.2.2.2.2.2.2.2.2.2.2.2.2.2.2.2.2.2.2.2.2.2.2.2.2.2.2.2.2.2.2.2.2.2.2.2.2.2.2.2.2.2.2.2.2.2.2.2.2.2.2.2.2.2.2.2.2.2.2.2.2.2.2.2.1
@[irreducible] noncomputable def vf := cX.2.2.2.2.2.2.2.2.2.2.2.2.2.2.2.2.2.2.2.2.2.2.2.2.2.2.2.2.2.2.2.2.2.2.2.2.2.2.2.2.2.2.2.2.2.2.2.2.2.2.2.2.2.2.2.2.2.2.2.2.2.2.2.2.2.1
@[irreducible] noncomputable def pls := cX.2.2.2.2.2.2.2.2.2.2.2.2.2.2.2.2.2.2.2.2.2.2.2.2.2.2.2.2.2.2.2.2.2.2.2.2.2.2.2.2.2.2.2.2.2.2.2.2.2.2.2.2.2.2.2.2.2.2.2.2.2.2.2.2.2.2.1
@[irreducible] noncomputable def pes := cX.2.2.2.2.2.2.2.2.2.2.2.2.2.2.2.2.2.2.2.2.2.2.2.2.2.2.2.2.2.2.2.2.2.2.2.2.2.2.2.2.2.2.2.2.2.2.2.2.2.2.2.2.2.2.2.2.2.2.2.2.2.2.2.2.2.2.2.1
@[irreducible] noncomputable def x := cX.2.2.2.2.2.2.2.2.2.2.2.2.2.2.2.2.2.2.2.2.2.2.2.2.2.2.2.2.2.2.2.2.2.2.2.2.2.2.2.2.2.2.2.2.2.2.2.2.2.2.2.2.2.2.2.2.2.2.2.2.2.2.2.2.2.2.2.2.1
@[irreducible] noncomputable def d := cX.2.2.2.2.2.2.2.2.2.2.2.2.2.2.2.2.2.2.2.2.2.2.2.2.2.2.2.2.2.2.2.2.2.2.2.2.2.2.2.2.2.2.2.2.2.2.2.2.2.2.2.2.2.2.2.2.2.2.2.2.2.2.2.2.2.2.2.2.2.1
@[irreducible] noncomputable def wk := cX.2.2.2.2.2.2.2.2.2.2.2.2.2.2.2.2.2.2.2.2.2.2.2.2.2.2.2.2.2.2.2.2.2.2.2.2.2.2.2.2.2.2.2.2.2.2.2.2.2.2.2.2.2.2.2.2.2.2.2.2.2.2.2.2.2.2.2.2.2.2.1
@[irreducible] noncomputable def it := cX.2.2.2.2.2.2.2.2.2.2.2.2.2.2.2.2.2.2.2.2.2.2.2.2.2.2.2.2.2.2.2.2.2.2.2.2.2.2.2.2.2.2.2.2.2.2.2.2.2.2.2.2.2.2.2.2.2.2.2.2.2.2.2.2.2.2.2.2.2.2.2.1
@[irreducible] noncomputable def q := cX.2.2.2.2.2.2.2.2.2.2.2.2.2.2.2.2.2.2.2.2.2.2.2.2.2.2.2.2.2.2.2.2.2.2.2.2.2.2.2.2.2.2.2.2.2.2.2.2.2.2.2.2.2.2.2.2.2.2.2.2.2.2.2.2.2.2.2.2.2.2.2.2.1
@[irreducible] noncomputable def nw := cX.2.2.2.2.2.2.2.2.2.2.2.2.2.2.2.2.2.2.2.2.2.2.2.2.2.2.2.2.2.2.2.2.2.2.2.2.2.2.2.2.2.2.2.2.2.2.2.2.2.2.2.2.2.2.2.2.2.2.2.2.2.2.2.2.2.2.2.2.2.2.2.2.2.1
@[irreducible] noncomputable def ni := cX.2.2.2.2.2.2.2.2.2.2.2.2.2.2.2.2.2.2.2.2.2.2.2.2.2.2.2.2.2.2.2.2.2.2.2.2.2.2.2.2.2.2.2.2.2.2.2.2.2.2.2.2.2.2.2.2.2.2.2.2.2.2.2.2.2.2.2.2.2.2.2.2.2.2.1
@[irreducible] noncomputable def cq := cX.2.2.2.2.2.2.2.2.2.2.2.2.2.2.2.2.2.2.2.2.2.2.2.2.2.2.2.2.2.2.2.2.2.2.2.2.2.2.2.2.2.2.2.2.2.2.2.2.2.2.2.2.2.2.2.2.2.2.2.2.2.2.2.2.2.2.2.2.2.2.2.2.2.2.2.1
@[irreducible] noncomputable def pv := cX.2.2.2.2.2.2.2.2.2.2.2.2.2.2.2.2.2.2.2.2.2.2.2.2.2.2.2.2.2.2.2.2.2.2.2.2.2.2.2.2.2.2.2.2.2.2.2.2.2.2.2.2.2.2.2.2.2.2.2.2.2.2.2.2.2.2.2.2.2.2.2.2.2.2.2.2.1
@[irreducible] noncomputable def θ := cX.2.2.2.2.2.2.2.2.2.2.2.2.2.2.2.2.2.2.2.2.2.2.2.2.2.2.2.2.2.2.2.2.2.2.2.2.2.2.2.2.2.2.2.2.2.2.2.2.2.2.2.2.2.2.2.2.2.2.2.2.2.2.2.2.2.2.2.2.2.2.2.2.2.2.2.2.2.1
@[irreducible] noncomputable def ps := cX.2.2.2.2.2.2.2.2.2.2.2.2.2.2.2.2.2.2.2.2.2.2.2.2.2.2.2.2.2.2.2.2.2.2.2.2.2.2.2.2.2.2.2.2.2.2.2.2.2.2.2.2.2.2.2.2.2.2.2.2.2.2.2.2.2.2.2.2.2.2.2.2.2.2.2.2.2.2.1
@[irreducible] noncomputable def es := cX.2.2.2.2.2.2.2.2.2.2.2.2.2.2.2.2.2.2.2.2.2.2.2.2.2.2.2.2.2.2.2.2.2.2.2.2.2.2.2.2.2.2.2.2.2.2.2.2.2.2.2.2.2.2.2.2.2.2.2.2.2.2.2.2.2.2.2.2.2.2.2.2.2.2.2.2.2.2.2.1
@[irreducible] noncomputable def RR := cX.2.2.2.2.2.2.2.2.2.2.2.2.2.2.2.2.2.2.2.2.2.2.2.2.2.2.2.2.2.2.2.2.2.2.2.2.2.2.2.2.2.2.2.2.2.2.2.2.2.2.2.2.2.2.2.2.2.2.2.2.2.2.2.2.2.2.2.2.2.2.2.2.2.2.2.2.2.2.2.2
theorem core : StX w p loose mean mg mb o plan bl n dp un gd a outer A₀ base h₀ L m s Q E cT cO cLt cH cE cP cC cM cJ oT oO oLt oH oE oP oC oM tl hl el xh dh z lim P Pe h1 h2 h3 hn tm last ce nh nz nt cP' cE' c6 vh vh2 vd vf pls pes x d wk it q nw ni cq pv θ ps es RR := by
  unfold StX
  intro S OW hvp B F X T CH N d1 d2 d3 d4 d5 d6 d7 d8 k0 k1 k2 k3 k4 k5 k6 k7 k8 k9 u2 u6 u7 r1 r2 r3 r4 r5 r6 r7 r8 r9 r10 nd14 hzo dne dro dB oB oR items hth g1 g3 g4 g5 g6 gl hS0 hpl hps hin hlp hpe hes hine hd hu ret
  unfold Pr
  refine wpAny_noRaise ?_
  rw [show lawRest 9 = _ :: _ :: _ :: lawRest 12 from rfl]
  rw [show lawScope = { kind := _, names := _, isGenerator := _, isCoroutine := _, more := _ } from rfl]
  revert X; k_fill; intro X
  simp only [List.cons_append, List.nil_append] at N
  repeat' ((fail_if_success (with_reducible show wpAny _ _ (execs (lawRest 12) _) _ _ _)); (first | (k_unfold; (try dsimp only)) | walk1 | (dsimp only; walk1) | fail "no step"))
  rename News h₀ _ _ _ => N9
  rename Fr h₀ _ _ _ => F9
  obtain ⟨ed, ez⟩ : ∃ v, v = (pa0 N9).1 := ⟨_, rfl⟩
  dsimp only [pa0] at ez
  subst ez
  obtain ⟨pd, ez⟩ : ∃ v, v = (pa1 N9).1 := ⟨_, rfl⟩
  dsimp only [pa1] at ez
  subst ez
  obtain ⟨xc, ez⟩ : ∃ v, v = (pa2 N9).1 := ⟨_, rfl⟩
  dsimp only [pa2] at ez
  subst ez
  obtain ⟨dc, ez⟩ : ∃ v, v = (pa3 N9).1 := ⟨_, rfl⟩
  dsimp only [pa3] at ez
  subst ez
  obtain ⟨fD, ez⟩ : ∃ v, v = (pa4 N9).1 := ⟨_, rfl⟩
  dsimp only [pa4] at ez
  subst ez
  obtain ⟨kD, ez⟩ : ∃ v, v = (pa5 N9).1 := ⟨_, rfl⟩
  dsimp only [pa5] at ez
  subst ez
  obtain ⟨fL, ez⟩ : ∃ v, v = (pa6 N9).1 := ⟨_, rfl⟩
  dsimp only [pa6] at ez
  subst ez
  obtain ⟨kL, ez⟩ : ∃ v, v = (pa7 N9).1 := ⟨_, rfl⟩
  dsimp only [pa7] at ez
  subst ez
  obtain ⟨okD, ez⟩ : ∃ v, v = (pa5 N9).2 := ⟨_, rfl⟩
  dsimp only [pa5] at ez
  subst ez
  obtain ⟨okL, ez⟩ : ∃ v, v = (pa7 N9).2 := ⟨_, rfl⟩
  dsimp only [pa7] at ez
  subst ez
  obtain ⟨dL, pL, tL, hoL⟩ : ∃ dL pL tL, (pa6 N9).2 = mkFn (lawStmt 9) [(PySem.Str.ofString "things", cT), (PySem.Str.ofString "held", cH), (PySem.Str.ofString "heap", cP), (PySem.Str.ofString "counter", cC)] dL pL kL tL := ⟨_, _, _, rfl⟩
  obtain ⟨dD, pD, tD, hoD⟩ : ∃ dL pL tL, (pa4 N9).2 = mkFn (lawStmt 10) [(PySem.Str.ofString "things", cT), (PySem.Str.ofString "own", cO), (PySem.Str.ofString "let", cLt), (PySem.Str.ofString "heard", cE)] dL pL kD tL := ⟨_, _, _, rfl⟩
  obtain ⟨c1, c2, c3, c4, hdc⟩ : ∃ c1 c2 c3 c4, (pa3 N9).2 = counterD w.params c1 c2 c3 c4 xh fD pd ed := ⟨_, _, _, _, rfl⟩
  dsimp only [pa6] at hoL
  dsimp only [pa4] at hoD
  dsimp only [pa3] at hdc
  rw [hoL, hoD, hdc] at N9
  rename Obj.data _ = Data.cell (some (Value.ref fL)) => eL
  rename Obj.data _ = Data.cell (some (Value.ref xc)) => eC
  rename Obj.data okL = _ => kL1
  rename Obj.data okD = _ => kD1
  have kL2 : ∃ vs t, okL.data = .fields vs ∧ vs[1]? = some (.str (PySem.Str.ofString "law" ++ PySem.Str.ofString ".<locals>." ++ PySem.Str.ofString "let") t) := ⟨_, _, kL1, by assumption⟩
  have kD2 : ∃ vs t, okD.data = .fields vs ∧ vs[1]? = some (.str (PySem.Str.ofString "law" ++ PySem.Str.ofString ".<locals>." ++ PySem.Str.ofString "destroy") t) := ⟨_, _, kD1, by assumption⟩
  rename AllLt kL RR => ltA
  have lt1 : @LT.lt Nat _ kL fL := by assumption
  have lt2 : @LT.lt Nat _ fL kD := by assumption
  have lt3 : @LT.lt Nat _ kD fD := by assumption
  have lt4 : @LT.lt Nat _ fD dc := by assumption
  have lt5 : @LT.lt Nat _ dc xc := by assumption
  have lc1 : @LT.lt Nat _ cT kL := by assumption
  have lc2 : @LT.lt Nat _ cO kL := by assumption
  have lc3 : @LT.lt Nat _ cLt kL := by assumption
  have lc4 : @LT.lt Nat _ cH kL := by assumption
  have lc5 : @LT.lt Nat _ cE kL := by assumption
  have lc6 : @LT.lt Nat _ cP kL := by assumption
  have lc7 : @LT.lt Nat _ cC kL := by assumption
  have lc8 : @LT.lt Nat _ cM kL := by assumption
  have ltR := allLt_mem ltA
  obtain ⟨oLt2, eL2, NL2⟩ : ∃ v : Obj, v.data = .cell (some (.ref fL)) ∧ News h₀ L _ [(cLt, v)] := ⟨_, eL, news_sub N9 (fun p hp => by rw [List.mem_singleton.mp hp]; k_mem)⟩
  obtain ⟨oC2, eC2, NC2⟩ : ∃ v : Obj, v.data = .cell (some (.ref xc)) ∧ News h₀ L _ [(cC, v)] := ⟨_, eC, news_sub N9 (fun p hp => by rw [List.mem_singleton.mp hp]; k_mem)⟩
  have NR : News h₀ L _ RR := fun p hp => N9 p (by iterate 17 (apply List.mem_cons_of_mem)
                                                   exact hp)
  have NX : News h₀ L _ [(xc, instObj 359 dc), (dc, counterD w.params c1 c2 c3 c4 xh fD pd ed), (fD, mkFn (lawStmt 10) [(PySem.Str.ofString "things", cT), (PySem.Str.ofString "own", cO), (PySem.Str.ofString "let", cLt), (PySem.Str.ofString "heard", cE)] dD pD kD tD), (kD, okD), (fL, mkFn (lawStmt 9) [(PySem.Str.ofString "things", cT), (PySem.Str.ofString "held", cH), (PySem.Str.ofString "heap", cP), (PySem.Str.ofString "counter", cC)] dL pL kL tL), (kL, okL), (cT, oT), (cO, oO), (cH, oH), (cE, oE), (cP, oP), (cM, oM)] := news_sub N9 (by lcg_sub)
  have oldlt : ∀ b ∈ olds cC cP cH cT cO cLt cE xh dh hl el tl o.od o.pl, @LT.lt Nat _ b kL := fun b hb => by
    replace hb := mem_ors hb
    rcases hb with rfl | rfl | rfl | rfl | rfl | rfl | rfl | rfl | rfl | rfl | rfl | rfl | rfl | rfl
    · exact lc7
    · exact lc6
    · exact lc4
    · exact lc1
    · exact lc2
    · exact lc3
    · exact lc5
    · exact ltR _ r4
    · exact ltR _ r5
    · exact ltR _ r2
    · exact ltR _ r1
    · exact ltR _ r6
    · exact ltR _ (r7 _ (.head _))
    · exact ltR _ (r7 (o.pl, listOf o.vp.toArray o.c5) (.tail _ (.tail _ (.tail _ (.tail _ (.tail _ (.head _)))))))
  have adrc : ∀ b ∈ [cC, cP, cH, cT, cO, cLt, cE, fL, fD, kL, kD, xc, dc, xh, dh, hl, el, tl, o.od, o.pl], b ∈ olds cC cP cH cT cO cLt cE xh dh hl el tl o.od o.pl ∨ @LE.le Nat _ kL b := fun b hb => by
    replace hb := mem_ors hb
    rcases hb with rfl | rfl | rfl | rfl | rfl | rfl | rfl | rfl | rfl | rfl | rfl | rfl | rfl | rfl | rfl | rfl | rfl | rfl | rfl | rfl <;> first | exact .inr (by omega) | exact .inl (by first | k_mem | simp)
  have nAdr : ∀ b : Nat, b < kL → b ∉ olds cC cP cH cT cO cLt cE xh dh hl el tl o.od o.pl → b ∉ [cC, cP, cH, cT, cO, cLt, cE, fL, fD, kL, kD, xc, dc, xh, dh, hl, el, tl, o.od, o.pl] := fun b hb hn hm => by
    rcases adrc b hm with h | h
    · exact hn h
    · exact absurd h (Nat.not_le.mpr hb)
  have ownlt : ∀ b ∈ [o.hl, o.dl, o.fl, o.bll, o.gl, cM, P, Pe, 427], @LT.lt Nat _ b kL := fun b hb => by
    replace hb := mem_ors hb
    rcases hb with rfl | rfl | rfl | rfl | rfl | rfl | rfl | rfl | rfl
    · exact ltR (o.hl, listOf vh2.toArray o.c1) (r7 _ (by first | k_mem | simp))
    · exact ltR (o.dl, listOf vd.toArray o.c2) (r7 _ (by first | k_mem | simp))
    · exact ltR (o.fl, listOf vf.toArray o.c3) (r7 _ (by first | k_mem | simp))
    · exact ltR (o.bll, listOf o.vb.toArray o.c4) (r7 _ (by first | k_mem | simp))
    · exact ltR (o.gl, listOf #[] c6) (r7 _ (by first | k_mem | simp))
    · exact lc8
    · exact ltR _ r9
    · exact ltR _ r10
    · omega
  obtain ⟨tps, N427⟩ : ∃ tps, News h₀ L _ [(427, tabObj tps)] := ⟨_, news_sub N9 (fun p hp => by rw [List.mem_singleton.mp hp]; k_mem)⟩
  clear N9
  refine law_hold (r := { cc := cC, cp := cP, ch := cH, ct := cT, co := cO, cL := cLt, ce := cE, occ := oC2, ocp := oP, och := oH, oct := oT, oco := oO, ocL := oLt2, oce := oE, fL := fL, fD := fD, kL := kL, kD := kD, dL := dL, dD := dD, pL := pL, pD := pD, tL := tL, tD := tD, xc := xc, dc := dc, c1 := c1, c2 := c2, c3 := c3, c4 := c4, pd := pd, ed := ed, xh := xh, dh := dh, h1 := h1, h2 := h2, h3 := h3, hn := hn, lim := lim, last := last, hl := hl, el := el, tl := tl, nh := nh, nt := nt, o := o, okL := okL, okD := okD, q := q, pv := pv, cq := cq, x := x, d := d, wk := wk, it := it, nw := nw, ni := ni, bv := fun _ => .none }) (z := z) (nz := nz) (vh := vh) (ve := []) (ne := ce) (θ := θ) (vh2 := vh2) (vd := vd) (vf := vf) (vg := []) (c6 := c6) (Rst := [(cM, oM), (P, listOf pls.toArray cP'), (Pe, listOf pes.toArray cE'), (427, tabObj tps)]) (S := S) (cj := cJ) (cm := cM) (P := P) (Pe := Pe) (om := oM)
    ?HO OW hvp B F9 X T ?N ?off ?roff g1 (by rw [g6]; exact .nil) g3 g4 g5 (by rw [g6]; exact .nil) gl ?gz hS0 ?hI0 (.tail _ (.head _)) ?hpl hps hin hlp (.tail _ (.tail _ (.head _))) ?hpe hes hine (.tail _ (.tail _ (.tail _ (.head _)))) (.head _) d8 hd hu fun h' tk' m' F' => ret _ _ _ F'
  case hpl => show (if _ = _ then _ else _) = _; rw [if_neg (by decide)]; exact hpl
  case hpe => show (if _ = _ then _ else _) = _; rw [if_neg (by decide)]; exact hpe
  case hI0 => exact fun j hj => ⟨(hth j hj).2.1, (hth j hj).2.2.1, (hth j hj).2.2.2.1, (hth j hj).2.2.2.2, fun h => absurd h (Nat.not_lt_zero _), fun _ => ⟨(hth j hj).1, rfl⟩⟩
  case gz => exact ⟨nAdr z (ltR _ r3) hzo, fun j hj => dB j hj z (.head _)⟩
  case roff =>
    intro p hp
    refine oR p.1 ?_
    simp only [List.mem_cons, List.not_mem_nil, or_false] at hp ⊢
    rcases hp with rfl | rfl | rfl | rfl
    · exact .inl rfl
    · exact .inr (.inl rfl)
    · exact .inr (.inr (.inl rfl))
    · exact .inr (.inr (.inr rfl))
  case off =>
    intro b hb hm
    have hb' : b ∈ [o.hl, o.dl, o.fl, o.bll, o.gl, cM, P, Pe, 427] := hb
    obtain ⟨q1, q2⟩ := oB b hb'
    rcases List.mem_append.mp hm with h | h
    · rcases List.mem_cons.mp h with h | h
      · exact q1 (h ▸ .head _)
      · exact nAdr b (ownlt b hb') (fun h2 => q1 (.tail _ h2)) h
    · obtain ⟨j, hj, h⟩ := List.mem_flatMap.mp h
      obtain ⟨w1, w2, w3, w4, w5⟩ := q2 j (List.mem_range.mp hj)
      replace h := mem_ors h
      rcases h with h | h | h | h | h
      · exact w1 h
      · exact w2 h
      · exact w3 h
      · exact w4 h
      · exact w5 h
  case HO =>
    intro bv hbv
    exact { ecc := eC2, ecp := d6, ech := d4, ect := d1, eco := d2, ecL := eL2, ece := d5, ekL := kL2, ekD := kD2, dict := OW.dict, nd := nodup20 nd14 oldlt lt1 lt2 lt3 lt4 lt5, dne := dne, dro := dro,
            dadr := fun j hj => nAdr _ (ltR _ (r8 j hj).1) fun h => (dB j hj _ (.tail _ h)).1 rfl,
            roadr := fun j hj => ⟨nAdr _ (ltR _ (r8 j hj).2.1) fun h => (dB j hj _ (.tail _ h)).2.1 rfl, nAdr _ (ltR _ (r8 j hj).2.2.1) fun h => (dB j hj _ (.tail _ h)).2.2.1 rfl, nAdr _ (ltR _ (r8 j hj).2.2.2.1) fun h => (dB j hj _ (.tail _ h)).2.2.2.1 rfl, nAdr _ (ltR _ (r8 j hj).2.2.2.2) fun h => (dB j hj _ (.tail _ h)).2.2.2.2 rfl⟩,
            inplan := OW.plan, items := items, small := OW.small, blen := OW.blen, bless := hbv }
  case N =>
    intro p hp
    rcases List.mem_append.mp hp with hp | hp
    · rcases List.mem_append.mp hp with hp | hp
      · replace hp := mem_ors hp
        rcases hp with rfl | rfl | rfl | rfl | rfl | rfl | rfl | rfl | rfl | rfl | rfl | rfl | rfl | rfl | rfl | rfl | rfl | rfl | rfl | rfl | rfl
        · exact NC2 _ (.head _)
        · exact NX (cP, oP) (by first | k_mem | simp)
        · exact NX (cH, oH) (by first | k_mem | simp)
        · exact NX (cT, oT) (by first | k_mem | simp)
        · exact NX (cO, oO) (by first | k_mem | simp)
        · exact NL2 _ (.head _)
        · exact NX (cE, oE) (by first | k_mem | simp)
        · exact NX _ (.tail _ (.tail _ (.tail _ (.tail _ (.head _)))))
        · exact NX _ (.tail _ (.tail _ (.head _)))
        · exact NX (kL, okL) (by first | k_mem | simp)
        · exact NX (kD, okD) (by first | k_mem | simp)
        · exact NX _ (.head _)
        · exact NX _ (.tail _ (.head _))
        · exact NR _ r4
        · exact NR _ r5
        · exact NR _ r3
        · exact NR _ r2
        · exact NR _ r1
        · exact NR _ r6
        · exact NR _ (r7 _ (.head _))
        · exact NR _ (r7 (o.pl, listOf o.vp.toArray o.c5) (.tail _ (.tail _ (.tail _ (.tail _ (.tail _ (.head _)))))))
      · obtain ⟨j, hj, h | h⟩ := RealA.ths_cases hp
        · subst h; exact NR _ (r8 j hj).1
        · replace h := mem_ors h
          rcases h with rfl | rfl | rfl | rfl
          · exact NR _ (r8 j hj).2.1
          · exact NR _ (r8 j hj).2.2.1
          · exact NR _ (r8 j hj).2.2.2.1
          · exact NR _ (r8 j hj).2.2.2.2
    · rcases List.mem_append.mp hp with hp | hp
      · replace hp := mem_ors hp
        rcases hp with rfl | rfl | rfl | rfl | rfl
        · exact NR _ (r7 (o.hl, listOf vh2.toArray o.c1) (by first | k_mem | simp))
        · exact NR _ (r7 (o.dl, listOf vd.toArray o.c2) (by first | k_mem | simp))
        · exact NR _ (r7 (o.fl, listOf vf.toArray o.c3) (by first | k_mem | simp))
        · exact NR _ (r7 (o.bll, listOf o.vb.toArray o.c4) (by first | k_mem | simp))
        · exact NR _ (r7 (o.gl, listOf #[] c6) (by first | k_mem | simp))
      · replace hp := mem_ors hp
        rcases hp with rfl | rfl | rfl | rfl
        · exact NX (cM, oM) (by first | k_mem | simp)
        · exact NR _ r9
        · exact NR _ r10
        · exact N427 _ (.head _)
theorem all (x : XX) : StX (x.1) (x.2.1) (x.2.2.1) (x.2.2.2.1) (x.2.2.2.2.1) (x.2.2.2.2.2.1) (x.2.2.2.2.2.2.1) (x.2.2.2.2.2.2.2.1) (x.2.2.2.2.2.2.2.2.1) (x.2.2.2.2.2.2.2.2.2.1) (x.2.2.2.2.2.2.2.2.2.2.1) (x.2.2.2.2.2.2.2.2.2.2.2.1) (x.2.2.2.2.2.2.2.2.2.2.2.2.1) (x.2.2.2.2.2.2.2.2.2.2.2.2.2.1) (x.2.2.2.2.2.2.2.2.2.2.2.2.2.2.1) (x.2.2.2.2.2.2.2.2.2.2.2.2.2.2.2.1) (x.2.2.2.2.2.2.2.2.2.2.2.2.2.2.2.2.1) (x.2.2.2.2.2.2.2.2.2.2.2.2.2.2.2.2.2.1) (x.2.2.2.2.2.2.2.2.2.2.2.2.2.2.2.2.2.2.1) (x.2.2.2.2.2.2.2.2.2.2.2.2.2.2.2.2.2.2.2.1) (x.2.2.2.2.2.2.2.2.2.2.2.2.2.2.2.2.2.2.2.2.1) (x.2.2.2.2.2.2.2.2.2.2.2.2.2.2.2.2.2.2.2.2.2.1) (x.2.2.2.2.2.2.2.2.2.2.2.2.2.2.2.2.2.2.2.2.2.2.1) (x.2.2.2.2.2.2.2.2.2.2.2.2.2.2.2.2.2.2.2.2.2.2.2.1) (x.2.2.2.2.2.2.2.2.2.2.2.2.2.2.2.2.2.2.2.2.2.2.2.2.1) (x.2.2.2.2.2.2.2.2.2.2.2.2.2.2.2.2.2.2.2.2.2.2.2.2.2.1) (x.2.2.2.2.2.2.2.2.2.2.2.2.2.2.2.2.2.2.2.2.2.2.2.2.2.2.1) (x.2.2.2.2.2.2.2.2.2.2.2.2.2.2.2.2.2.2.2.2.2.2.2.2.2.2.2.1) (x.2.2.2.2.2.2.2.2.2.2.2.2.2.2.2.2.2.2.2.2.2.2.2.2.2.2.2.2.1) (x.2.2.2.2.2.2.2.2.2.2.2.2.2.2.2.2.2.2.2.2.2.2.2.2.2.2.2.2.2.1) (x.2.2.2.2.2.2.2.2.2.2.2.2.2.2.2.2.2.2.2.2.2.2.2.2.2.2.2.2.2.2.1) (x.2.2.2.2.2.2.2.2.2.2.2.2.2.2.2.2.2.2.2.2.2.2.2.2.2.2.2.2.2.2.2.1) (x.2.2.2.2.2.2.2.2.2.2.2.2.2.2.2.2.2.2.2.2.2.2.2.2.2.2.2.2.2.2.2.2.1) (x.2.2.2.2.2.2.2.2.2.2.2.2.2.2.2.2.2.2.2.2.2.2.2.2.2.2.2.2.2.2.2.2.2.1) (x.2.2.2.2.2.2.2.2.2.2.2.2.2.2.2.2.2.2.2.2.2.2.2.2.2.2.2.2.2.2.2.2.2.2.1) (x.2.2.2.2.2.2.2.2.2.2.2.2.2.2.2.2.2.2.2.2.2.2.2.2.2.2.2.2.2.2.2.2.2.2.2.1) (x.2.2.2.2.2.2.2.2.2.2.2.2.2.2.2.2.2.2.2.2.2.2.2.2.2.2.2.2.2.2.2.2.2.2.2.2.1) (x.2.2.2.2.2.2.2.2.2.2.2.2.2.2.2.2.2.2.2.2.2.2.2.2.2.2.2.2.2.2.2.2.2.2.2.2.2.1) (x.2.2.2.2.2.2.2.2.2.2.2.2.2.2.2.2.2.2.2.2.2.2.2.2.2.2.2.2.2.2.2.2.2.2.2.2.2.2.1) (x.2.2.2.2.2.2.2.2.2.2.2.2.2.2.2.2.2.2.2.2.2.2.2.2.2.2.2.2.2.2.2.2.2.2.2.2.2.2.2.1) (x.2.2.2.2.2.2.2.2.2.2.2.2.2.2.2.2.2.2.2.2.2.2.2.2.2.2.2.2.2.2.2.2.2.2.2.2.2.2.2.2.1) (x.2.2.2.2.2.2.2.2.2.2.2.2.2.2.2.2.2.2.2.2.2.2.2.2.2.2.2.2.2.2.2.2.2.2.2.2.2.2.2.2.2.1) (x.2.2.2.2.2.2.2.2.2.2.2.2.2.2.2.2.2.2.2.2.2.2.2.2.2.2.2.2.2.2.2.2.2.2.2.2.2.2.2.2.2.2.1) (x.2.2.2.2.2.2.2.2.2.2.2.2.2.2.2.2.2.2.2.2.2.2.2.2.2.2.2.2.2.2.2.2.2.2.2.2.2.2.2.2.2.2.2.1) (x.2.2.2.2.2.2.2.2.2.2.2.2.2.2.2.2.2.2.2.2.2.2.2.2.2.2.2.2.2.2.2.2.2.2.2.2.2.2.2.2.2.2.2.2.1) (x.2.2.2.2.2.2.2.2.2.2.2.2.2.2.2.2.2.2.2.2.2.2.2.2.2.2.2.2.2.2.2.2.2.2.2.2.2.2.2.2.2.2.2.2.2.1) (x.2.2.2.2.2.2.2.2.2.2.2.2.2.2.2.2.2.2.2.2.2.2.2.2.2.2.2.2.2.2.2.2.2.2.2.2.2.2.2.2.2.2.2.2.2.2.1) (x.2.2.2.2.2.2.2.2.2.2.2.2.2.2.2.2.2.2.2.2.2.2.2.2.2.2.2.2.2.2.2.2.2.2.2.2.2.2.2.2.2.2.2.2.2.2.2.1) (x.2.2.2.2.2.2.2.2.2.2.2.2.2.2.2.2.2.2.2.2.2.2.2.2.2.2.2.2.2.2.2.2.2.2.2.2.2.2.2.2.2.2.2.2.2.2.2.2.1) (x.2.2.2.2.2.2.2.2.2.2.2.2.2.2.2.2.2.2.2.2.2.2.2.2.2.2.2.2.2.2.2.2.2.2.2.2.2.2.2.2.2.2.2.2.2.2.2.2.2.1) (x.2.2.2.2.2.2.2.2.2.2.2.2.2.2.2.2.2.2.2.2.2.2.2.2.2.2.2.2.2.2.2.2.2.2.2.2.2.2.2.2.2.2.2.2.2.2.2.2.2.2.1) (x.2.2.2.2.2.2.2.2.2.2.2.2.2.2.2.2.2.2.2.2.2.2.2.2.2.2.2.2.2.2.2.2.2.2.2.2.2.2.2.2.2.2.2.2.2.2.2.2.2.2.2.1) (x.2.2.2.2.2.2.2.2.2.2.2.2.2.2.2.2.2.2.2.2.2.2.2.2.2.2.2.2.2.2.2.2.2.2.2.2.2.2.2.2.2.2.2.2.2.2.2.2.2.2.2.2.1) (x.2.2.2.2.2.2.2.2.2.2.2.2.2.2.2.2.2.2.2.2.2.2.2.2.2.2.2.2.2.2.2.2.2.2.2.2.2.2.2.2.2.2.2.2.2.2.2.2.2.2.2.2.2.1) (x.2.2.2.2.2.2.2.2.2.2.2.2.2.2.2.2.2.2.2.2.2.2.2.2.2.2.2.2.2.2.2.2.2.2.2.2.2.2.2.2.2.2.2.2.2.2.2.2.2.2.2.2.2.2.1) (x.2.2.2.2.2.2.2.2.2.2.2.2.2.2.2.2.2.2.2.2.2.2.2.2.2.2.2.2.2.2.2.2.2.2.2.2.2.2.2.2.2.2.2.2.2.2.2.2.2.2.2.2.2.2.2.1) (x.2.2.2.2.2.2.2.2.2.2.2.2.2.2.2.2.2.2.2.2.2.2.2.2.2.2.2.2.2.2.2.2.2.2.2.2.2.2.2.2.2.2.2.2.2.2.2.2.2.2.2.2.2.2.2.2.1) (x.2.2.2.2.2.2.2.2.2.2.2.2.2.2.2.2.2.2.2.2.2.2.2.2.2.2.2.2.2.2.2.2.2.2.2.2.2.2.2.2.2.2.2.2.2.2.2.2.2.2.2.2.2.2.2.2.2.1) (x.2.2.2.2.2.2.2.2.2.2.2.2.2.2.2.2.2.2.2.2.2.2.2.2.2.2.2.2.2.2.2.2.2.2.2.2.2.2.2.2.2.2.2.2.2.2.2.2.2.2.2.2.2.2.2.2.2.2.1) (x.2.2.2.2.2.2.2.2.2.2.2.2.2.2.2.2.2.2.2.2.2.2.2.2.2.2.2.2.2.2.2.2.2.2.2.2.2.2.2.2.2.2.2.2.2.2.2.2.2.2.2.2.2.2.2.2.2.2.2.1) (x.2.2.2.2.2.2.2.2.2.2.2.2.2.2.2.2.2.2.2.2.2.2.2.2.2.2.2.2.2.2.2.2.2.2.2.2.2.2.2.2.2.2.2.2.2.2.2.2.2.2.2.2.2.2.2.2.2.2.2.2.1) (x.2.2.2.2.2.2.2.2.2.2.2.2.2.2.2.2.2.2.2.2.2.2.2.2.2.2.2.2.2.2.2.2.2.2.2.2.2.2.2.2.2.2.2.2.2.2.2.2.2.2.2.2.2.2.2.2.2.2.2.2.2.1) (x.2.2.2.2.2.2.2.2.2.2.2.2.2.2.2.2.2.2.2.2.2.2.2.2.2.2.2.2.2.2.2.2.2.2.2.2.2.2.2.2.2.2.2.2.2.2.2.2.2.2.2.2.2.2.2.2.2.2.2.2.2.2.1) (x.2.2.2.2.2.2.2.2.2.2.2.2.2.2.2.2.2.2.2.2.2.2.2.2.2.2.2.2.2.2.2.2.2.2.2.2.2.2.2.2.2.2.2.2.2.2.2.2.2.2.2.2.2.2.2.2.2.2.2.2.2.2.2.1) (x.2.2.2.2.2.2.2.2.2.2.2.2.2.2.2.2.2.2.2.2.2.2.2.2.2.2.2.2.2.2.2.2.2.2.2.2.2.2.2.2.2.2.2.2.2.2.2.2.2.2.2.2.2.2.2.2.2.2.2.2.2.2.2.2.1) (x.2.2.2.2.2.2.2.2.2.2.2.2.2.2.2.2.2.2.2.2.2.2.2.2.2.2.2.2.2.2.2.2.2.2.2.2.2.2.2.2.2.2.2.2.2.2.2.2.2.2.2.2.2.2.2.2.2.2.2.2.2.2.2.2.2.1) (x.2.2.2.2.2.2.2.2.2.2.2.2.2.2.2.2.2.2.2.2.2.2.2.2.2.2.2.2.2.2.2.2.2.2.2.2.2.2.2.2.2.2.2.2.2.2.2.2.2.2.2.2.2.2.2.2.2.2.2.2.2.2.2.2.2.2.1) (x.2.2.2.2.2.2.2.2.2.2.2.2.2.2.2.2.2.2.2.2.2.2.2.2.2.2.2.2.2.2.2.2.2.2.2.2.2.2.2.2.2.2.2.2.2.2.2.2.2.2.2.2.2.2.2.2.2.2.2.2.2.2.2.2.2.2.2.1) (x.2.2.2.2.2.2.2.2.2.2.2.2.2.2.2.2.2.2.2.2.2.2.2.2.2.2.2.2.2.2.2.2.2.2.2.2.2.2.2.2.2.2.2.2.2.2.2.2.2.2.2.2.2.2.2.2.2.2.2.2.2.2.2.2.2.2.2.2.1) (x.2.2.2.2.2.2.2.2.2.2.2.2.2.2.2.2.2.2.2.2.2.2.2.2.2.2.2.2.2.2.2.2.2.2.2.2.2.2.2.2.2.2.2.2.2.2.2.2.2.2.2.2.2.2.2.2.2.2.2.2.2.2.2.2.2.2.2.2.2.1) (x.2.2.2.2.2.2.2.2.2.2.2.2.2.2.2.2.2.2.2.2.2.2.2.2.2.2.2.2.2.2.2.2.2.2.2.2.2.2.2.2.2.2.2.2.2.2.2.2.2.2.2.2.2.2.2.2.2.2.2.2.2.2.2.2.2.2.2.2.2.2.1) (x.2.2.2.2.2.2.2.2.2.2.2.2.2.2.2.2.2.2.2.2.2.2.2.2.2.2.2.2.2.2.2.2.2.2.2.2.2.2.2.2.2.2.2.2.2.2.2.2.2.2.2.2.2.2.2.2.2.2.2.2.2.2.2.2.2.2.2.2.2.2.2.1) (x.2.2.2.2.2.2.2.2.2.2.2.2.2.2.2.2.2.2.2.2.2.2.2.2.2.2.2.2.2.2.2.2.2.2.2.2.2.2.2.2.2.2.2.2.2.2.2.2.2.2.2.2.2.2.2.2.2.2.2.2.2.2.2.2.2.2.2.2.2.2.2.2.1) (x.2.2.2.2.2.2.2.2.2.2.2.2.2.2.2.2.2.2.2.2.2.2.2.2.2.2.2.2.2.2.2.2.2.2.2.2.2.2.2.2.2.2.2.2.2.2.2.2.2.2.2.2.2.2.2.2.2.2.2.2.2.2.2.2.2.2.2.2.2.2.2.2.2.1) (x.2.2.2.2.2.2.2.2.2.2.2.2.2.2.2.2.2.2.2.2.2.2.2.2.2.2.2.2.2.2.2.2.2.2.2.2.2.2.2.2.2.2.2.2.2.2.2.2.2.2.2.2.2.2.2.2.2.2.2.2.2.2.2.2.2.2.2.2.2.2.2.2.2.2.1) (x.2.2.2.2.2.2.2.2.2.2.2.2.2.2.2.2.2.2.2.2.2.2.2.2.2.2.2.2.2.2.2.2.2.2.2.2.2.2.2.2.2.2.2.2.2.2.2.2.2.2.2.2.2.2.2.2.2.2.2.2.2.2.2.2.2.2.2.2.2.2.2.2.2.2.2.1) (x.2.2.2.2.2.2.2.2.2.2.2.2.2.2.2.2.2.2.2.2.2.2.2.2.2.2.2.2.2.2.2.2.2.2.2.2.2.2.2.2.2.2.2.2.2.2.2.2.2.2.2.2.2.2.2.2.2.2.2.2.2.2.2.2.2.2.2.2.2.2.2.2.2.2.2.2.1) (x.2.2.2.2.2.2.2.2.2.2.2.2.2.2.2.2.2.2.2.2.2.2.2.2.2.2.2.2.2.2.2.2.2.2.2.2.2.2.2.2.2.2.2.2.2.2.2.2.2.2.2.2.2.2.2.2.2.2.2.2.2.2.2.2.2.2.2.2.2.2.2.2.2.2.2.2.2.1) (x.2.2.2.2.2.2.2.2.2.2.2.2.2.2.2.2.2.2.2.2.2.2.2.2.2.2.2.2.2.2.2.2.2.2.2.2.2.2.2.2.2.2.2.2.2.2.2.2.2.2.2.2.2.2.2.2.2.2.2.2.2.2.2.2.2.2.2.2.2.2.2.2.2.2.2.2.2.2.1) (x.2.2.2.2.2.2.2.2.2.2.2.2.2.2.2.2.2.2.2.2.2.2.2.2.2.2.2.2.2.2.2.2.2.2.2.2.2.2.2.2.2.2.2.2.2.2.2.2.2.2.2.2.2.2.2.2.2.2.2.2.2.2.2.2.2.2.2.2.2.2.2.2.2.2.2.2.2.2.2.1) (x.2.2.2.2.2.2.2.2.2.2.2.2.2.2.2.2.2.2.2.2.2.2.2.2.2.2.2.2.2.2.2.2.2.2.2.2.2.2.2.2.2.2.2.2.2.2.2.2.2.2.2.2.2.2.2.2.2.2.2.2.2.2.2.2.2.2.2.2.2.2.2.2.2.2.2.2.2.2.2.2) := eps_all (ne := neX) (P := fun x => StX (x.1) (x.2.1) (x.2.2.1) (x.2.2.2.1) (x.2.2.2.2.1) (x.2.2.2.2.2.1) (x.2.2.2.2.2.2.1) (x.2.2.2.2.2.2.2.1) (x.2.2.2.2.2.2.2.2.1) (x.2.2.2.2.2.2.2.2.2.1) (x.2.2.2.2.2.2.2.2.2.2.1) (x.2.2.2.2.2.2.2.2.2.2.2.1) (x.2.2.2.2.2.2.2.2.2.2.2.2.1) (x.2.2.2.2.2.2.2.2.2.2.2.2.2.1) (x.2.2.2.2.2.2.2.2.2.2.2.2.2.2.1) (x.2.2.2.2.2.2.2.2.2.2.2.2.2.2.2.1) (x.2.2.2.2.2.2.2.2.2.2.2.2.2.2.2.2.1) (x.2.2.2.2.2.2.2.2.2.2.2.2.2.2.2.2.2.1) (x.2.2.2.2.2.2.2.2.2.2.2.2.2.2.2.2.2.2.1) (x.2.2.2.2.2.2.2.2.2.2.2.2.2.2.2.2.2.2.2.1) (x.2.2.2.2.2.2.2.2.2.2.2.2.2.2.2.2.2.2.2.2.1) (x.2.2.2.2.2.2.2.2.2.2.2.2.2.2.2.2.2.2.2.2.2.1) (x.2.2.2.2.2.2.2.2.2.2.2.2.2.2.2.2.2.2.2.2.2.2.1) (x.2.2.2.2.2.2.2.2.2.2.2.2.2.2.2.2.2.2.2.2.2.2.2.1) (x.2.2.2.2.2.2.2.2.2.2.2.2.2.2.2.2.2.2.2.2.2.2.2.2.1) (x.2.2.2.2.2.2.2.2.2.2.2.2.2.2.2.2.2.2.2.2.2.2.2.2.2.1) (x.2.2.2.2.2.2.2.2.2.2.2.2.2.2.2.2.2.2.2.2.2.2.2.2.2.2.1) (x.2.2.2.2.2.2.2.2.2.2.2.2.2.2.2.2.2.2.2.2.2.2.2.2.2.2.2.1) (x.2.2.2.2.2.2.2.2.2.2.2.2.2.2.2.2.2.2.2.2.2.2.2.2.2.2.2.2.1) (x.2.2.2.2.2.2.2.2.2.2.2.2.2.2.2.2.2.2.2.2.2.2.2.2.2.2.2.2.2.1) (x.2.2.2.2.2.2.2.2.2.2.2.2.2.2.2.2.2.2.2.2.2.2.2.2.2.2.2.2.2.2.1) (x.2.2.2.2.2.2.2.2.2.2.2.2.2.2.2.2.2.2.2.2.2.2.2.2.2.2.2.2.2.2.2.1) (x.2.2.2.2.2.2.2.2.2.2.2.2.2.2.2.2.2.2.2.2.2.2.2.2.2.2.2.2.2.2.2.2.1) (x.2.2.2.2.2.2.2.2.2.2.2.2.2.2.2.2.2.2.2.2.2.2.2.2.2.2.2.2.2.2.2.2.2.1) (x.2.2.2.2.2.2.2.2.2.2.2.2.2.2.2.2.2.2.2.2.2.2.2.2.2.2.2.2.2.2.2.2.2.2.1) (x.2.2.2.2.2.2.2.2.2.2.2.2.2.2.2.2.2.2.2.2.2.2.2.2.2.2.2.2.2.2.2.2.2.2.2.1) (x.2.2.2.2.2.2.2.2.2.2.2.2.2.2.2.2.2.2.2.2.2.2.2.2.2.2.2.2.2.2.2.2.2.2.2.2.1) (x.2.2.2.2.2.2.2.2.2.2.2.2.2.2.2.2.2.2.2.2.2.2.2.2.2.2.2.2.2.2.2.2.2.2.2.2.2.1) (x.2.2.2.2.2.2.2.2.2.2.2.2.2.2.2.2.2.2.2.2.2.2.2.2.2.2.2.2.2.2.2.2.2.2.2.2.2.2.1) (x.2.2.2.2.2.2.2.2.2.2.2.2.2.2.2.2.2.2.2.2.2.2.2.2.2.2.2.2.2.2.2.2.2.2.2.2.2.2.2.1) (x.2.2.2.2.2.2.2.2.2.2.2.2.2.2.2.2.2.2.2.2.2.2.2.2.2.2.2.2.2.2.2.2.2.2.2.2.2.2.2.2.1) (x.2.2.2.2.2.2.2.2.2.2.2.2.2.2.2.2.2.2.2.2.2.2.2.2.2.2.2.2.2.2.2.2.2.2.2.2.2.2.2.2.2.1) (x.2.2.2.2.2.2.2.2.2.2.2.2.2.2.2.2.2.2.2.2.2.2.2.2.2.2.2.2.2.2.2.2.2.2.2.2.2.2.2.2.2.2.1) (x.2.2.2.2.2.2.2.2.2.2.2.2.2.2.2.2.2.2.2.2.2.2.2.2.2.2.2.2.2.2.2.2.2.2.2.2.2.2.2.2.2.2.2.1) (x.2.2.2.2.2.2.2.2.2.2.2.2.2.2.2.2.2.2.2.2.2.2.2.2.2.2.2.2.2.2.2.2.2.2.2.2.2.2.2.2.2.2.2.2.1) (x.2.2.2.2.2.2.2.2.2.2.2.2.2.2.2.2.2.2.2.2.2.2.2.2.2.2.2.2.2.2.2.2.2.2.2.2.2.2.2.2.2.2.2.2.2.1) (x.2.2.2.2.2.2.2.2.2.2.2.2.2.2.2.2.2.2.2.2.2.2.2.2.2.2.2.2.2.2.2.2.2.2.2.2.2.2.2.2.2.2.2.2.2.2.1) (x.2.2.2.2.2.2.2.2.2.2.2.2.2.2.2.2.2.2.2.2.2.2.2.2.2.2.2.2.2.2.2.2.2.2.2.2.2.2.2.2.2.2.2.2.2.2.2.1) (x.2.2.2.2.2.2.2.2.2.2.2.2.2.2.2.2.2.2.2.2.2.2.2.2.2.2.2.2.2.2.2.2.2.2.2.2.2.2.2.2.2.2.2.2.2.2.2.2.1) (x.2.2.2.2.2.2.2.2.2.2.2.2.2.2.2.2.2.2.2.2.2.2.2.2.2.2.2.2.2.2.2.2.2.2.2.2.2.2.2.2.2.2.2.2.2.2.2.2.2.1) (x.2.2.2.2.2.2.2.2.2.2.2.2.2.2.2.2.2.2.2.2.2.2.2.2.2.2.2.2.2.2.2.2.2.2.2.2.2.2.2.2.2.2.2.2.2.2.2.2.2.2.1) (x.2.2.2.2.2.2.2.2.2.2.2.2.2.2.2.2.2.2.2.2.2.2.2.2.2.2.2.2.2.2.2.2.2.2.2.2.2.2.2.2.2.2.2.2.2.2.2.2.2.2.2.1) (x.2.2.2.2.2.2.2.2.2.2.2.2.2.2.2.2.2.2.2.2.2.2.2.2.2.2.2.2.2.2.2.2.2.2.2.2.2.2.2.2.2.2.2.2.2.2.2.2.2.2.2.2.1) (x.2.2.2.2.2.2.2.2.2.2.2.2.2.2.2.2.2.2.2.2.2.2.2.2.2.2.2.2.2.2.2.2.2.2.2.2.2.2.2.2.2.2.2.2.2.2.2.2.2.2.2.2.2.1) (x.2.2.2.2.2.2.2.2.2.2.2.2.2.2.2.2.2.2.2.2.2.2.2.2.2.2.2.2.2.2.2.2.2.2.2.2.2.2.2.2.2.2.2.2.2.2.2.2.2.2.2.2.2.2.1) (x.2.2.2.2.2.2.2.2.2.2.2.2.2.2.2.2.2.2.2.2.2.2.2.2.2.2.2.2.2.2.2.2.2.2.2.2.2.2.2.2.2.2.2.2.2.2.2.2.2.2.2.2.2.2.2.1) (x.2.2.2.2.2.2.2.2.2.2.2.2.2.2.2.2.2.2.2.2.2.2.2.2.2.2.2.2.2.2.2.2.2.2.2.2.2.2.2.2.2.2.2.2.2.2.2.2.2.2.2.2.2.2.2.2.1) (x.2.2.2.2.2.2.2.2.2.2.2.2.2.2.2.2.2.2.2.2.2.2.2.2.2.2.2.2.2.2.2.2.2.2.2.2.2.2.2.2.2.2.2.2.2.2.2.2.2.2.2.2.2.2.2.2.2.1) (x.2.2.2.2.2.2.2.2.2.2.2.2.2.2.2.2.2.2.2.2.2.2.2.2.2.2.2.2.2.2.2.2.2.2.2.2.2.2.2.2.2.2.2.2.2.2.2.2.2.2.2.2.2.2.2.2.2.2.1) (x.2.2.2.2.2.2.2.2.2.2.2.2.2.2.2.2.2.2.2.2.2.2.2.2.2.2.2.2.2.2.2.2.2.2.2.2.2.2.2.2.2.2.2.2.2.2.2.2.2.2.2.2.2.2.2.2.2.2.2.1) (x.2.2.2.2.2.2.2.2.2.2.2.2.2.2.2.2.2.2.2.2.2.2.2.2.2.2.2.2.2.2.2.2.2.2.2.2.2.2.2.2.2.2.2.2.2.2.2.2.2.2.2.2.2.2.2.2.2.2.2.2.1) (x.2.2.2.2.2.2.2.2.2.2.2.2.2.2.2.2.2.2.2.2.2.2.2.2.2.2.2.2.2.2.2.2.2.2.2.2.2.2.2.2.2.2.2.2.2.2.2.2.2.2.2.2.2.2.2.2.2.2.2.2.2.1) (x.2.2.2.2.2.2.2.2.2.2.2.2.2.2.2.2.2.2.2.2.2.2.2.2.2.2.2.2.2.2.2.2.2.2.2.2.2.2.2.2.2.2.2.2.2.2.2.2.2.2.2.2.2.2.2.2.2.2.2.2.2.2.1) (x.2.2.2.2.2.2.2.2.2.2.2.2.2.2.2.2.2.2.2.2.2.2.2.2.2.2.2.2.2.2.2.2.2.2.2.2.2.2.2.2.2.2.2.2.2.2.2.2.2.2.2.2.2.2.2.2.2.2.2.2.2.2.2.1) (x.2.2.2.2.2.2.2.2.2.2.2.2.2.2.2.2.2.2.2.2.2.2.2.2.2.2.2.2.2.2.2.2.2.2.2.2.2.2.2.2.2.2.2.2.2.2.2.2.2.2.2.2.2.2.2.2.2.2.2.2.2.2.2.2.1) (x.2.2.2.2.2.2.2.2.2.2.2.2.2.2.2.2.2.2.2.2.2.2.2.2.2.2.2.2.2.2.2.2.2.2.2.2.2.2.2.2.2.2.2.2.2.2.2.2.2.2.2.2.2.2.2.2.2.2.2.2.2.2.2.2.2.1) (x.2.2.2.2.2.2.2.2.2.2.2.2.2.2.2.2.2.2.2.2.2.2.2.2.2.2.2.2.2.2.2.2.2.2.2.2.2.2.2.2.2.2.2.2.2.2.2.2.2.2.2.2.2.2.2.2.2.2.2.2.2.2.2.2.2.2.1) (x.2.2.2.2.2.2.2.2.2.2.2.2.2.2.2.2.2.2.2.2.2.2.2.2.2.2.2.2.2.2.2.2.2.2.2.2.2.2.2.2.2.2.2.2.2.2.2.2.2.2.2.2.2.2.2.2.2.2.2.2.2.2.2.2.2.2.2.1) (x.2.2.2.2.2.2.2.2.2.2.2.2.2.2.2.2.2.2.2.2.2.2.2.2.2.2.2.2.2.2.2.2.2.2.2.2.2.2.2.2.2.2.2.2.2.2.2.2.2.2.2.2.2.2.2.2.2.2.2.2.2.2.2.2.2.2.2.2.1) (x.2.2.2.2.2.2.2.2.2.2.2.2.2.2.2.2.2.2.2.2.2.2.2.2.2.2.2.2.2.2.2.2.2.2.2.2.2.2.2.2.2.2.2.2.2.2.2.2.2.2.2.2.2.2.2.2.2.2.2.2.2.2.2.2.2.2.2.2.2.1) (x.2.2.2.2.2.2.2.2.2.2.2.2.2.2.2.2.2.2.2.2.2.2.2.2.2.2.2.2.2.2.2.2.2.2.2.2.2.2.2.2.2.2.2.2.2.2.2.2.2.2.2.2.2.2.2.2.2.2.2.2.2.2.2.2.2.2.2.2.2.2.1) (x.2.2.2.2.2.2.2.2.2.2.2.2.2.2.2.2.2.2.2.2.2.2.2.2.2.2.2.2.2.2.2.2.2.2.2.2.2.2.2.2.2.2.2.2.2.2.2.2.2.2.2.2.2.2.2.2.2.2.2.2.2.2.2.2.2.2.2.2.2.2.2.1) (x.2.2.2.2.2.2.2.2.2.2.2.2.2.2.2.2.2.2.2.2.2.2.2.2.2.2.2.2.2.2.2.2.2.2.2.2.2.2.2.2.2.2.2.2.2.2.2.2.2.2.2.2.2.2.2.2.2.2.2.2.2.2.2.2.2.2.2.2.2.2.2.2.1) (x.2.2.2.2.2.2.2.2.2.2.2.2.2.2.2.2.2.2.2.2.2.2.2.2.2.2.2.2.2.2.2.2.2.2.2.2.2.2.2.2.2.2.2.2.2.2.2.2.2.2.2.2.2.2.2.2.2.2.2.2.2.2.2.2.2.2.2.2.2.2.2.2.2.1) (x.2.2.2.2.2.2.2.2.2.2.2.2.2.2.2.2.2.2.2.2.2.2.2.2.2.2.2.2.2.2.2.2.2.2.2.2.2.2.2.2.2.2.2.2.2.2.2.2.2.2.2.2.2.2.2.2.2.2.2.2.2.2.2.2.2.2.2.2.2.2.2.2.2.2.1) (x.2.2.2.2.2.2.2.2.2.2.2.2.2.2.2.2.2.2.2.2.2.2.2.2.2.2.2.2.2.2.2.2.2.2.2.2.2.2.2.2.2.2.2.2.2.2.2.2.2.2.2.2.2.2.2.2.2.2.2.2.2.2.2.2.2.2.2.2.2.2.2.2.2.2.2.1) (x.2.2.2.2.2.2.2.2.2.2.2.2.2.2.2.2.2.2.2.2.2.2.2.2.2.2.2.2.2.2.2.2.2.2.2.2.2.2.2.2.2.2.2.2.2.2.2.2.2.2.2.2.2.2.2.2.2.2.2.2.2.2.2.2.2.2.2.2.2.2.2.2.2.2.2.2.1) (x.2.2.2.2.2.2.2.2.2.2.2.2.2.2.2.2.2.2.2.2.2.2.2.2.2.2.2.2.2.2.2.2.2.2.2.2.2.2.2.2.2.2.2.2.2.2.2.2.2.2.2.2.2.2.2.2.2.2.2.2.2.2.2.2.2.2.2.2.2.2.2.2.2.2.2.2.2.1) (x.2.2.2.2.2.2.2.2.2.2.2.2.2.2.2.2.2.2.2.2.2.2.2.2.2.2.2.2.2.2.2.2.2.2.2.2.2.2.2.2.2.2.2.2.2.2.2.2.2.2.2.2.2.2.2.2.2.2.2.2.2.2.2.2.2.2.2.2.2.2.2.2.2.2.2.2.2.2.1) (x.2.2.2.2.2.2.2.2.2.2.2.2.2.2.2.2.2.2.2.2.2.2.2.2.2.2.2.2.2.2.2.2.2.2.2.2.2.2.2.2.2.2.2.2.2.2.2.2.2.2.2.2.2.2.2.2.2.2.2.2.2.2.2.2.2.2.2.2.2.2.2.2.2.2.2.2.2.2.2.1) (x.2.2.2.2.2.2.2.2.2.2.2.2.2.2.2.2.2.2.2.2.2.2.2.2.2.2.2.2.2.2.2.2.2.2.2.2.2.2.2.2.2.2.2.2.2.2.2.2.2.2.2.2.2.2.2.2.2.2.2.2.2.2.2.2.2.2.2.2.2.2.2.2.2.2.2.2.2.2.2.2)) (by with_unfolding_all exact core) x
end C_law_defs
theorem law_defs {w : World}
  {p : Program}
  {loose : List PySem.Str}
  {mean : ExcName → Option Value}
  {mg mb : PySem.Str → Option Value}
  {o : OwnA}
  {plan : List (List Int)}
  {bl : List Bool}
  {n : Nat}
  (OW : OwnOk w o plan bl n)
  (hvp : o.vp.length = n)
  {dp un : Nat}
  {gd : Option (List Code)}
  {a : Addr}
  {outer : List Env}
  {A₀ : Around}
  {base h₀ : Heap}
  {L : Addr}
  {m : PySem.Str → Option Value}
  {s : Shared}
  {Q : Flow → Shared → Prop}
  {E : Value → Shared → Prop}
  {cT cO cLt cH cE cP cC cM cJ : Addr}
  {oT oO oLt oH oE oP oC oM : Obj}
  {tl hl el xh dh z lim P Pe : Addr}
  {h1 h2 h3 hn tm : Tok}
  {last : Int}
  {ce nh nz nt cP' cE' c6 : Nat}
  {vh vh2 vd vf pls pes : List Value}
  {x d wk it q : Nat → Addr}
  {nw ni cq : Nat → Nat}
  {pv : Nat → List Value}
  {θ : Nat → Th}
  {S : S}
  {ps es : List Int}
  {RR : List (Addr × Obj)}
  (B : Below A₀ base outer h₀)
  (F : Fr h₀ L s.heap m)
  (X : (hd.heap_1 w.params).In h₀)
  (T : Top p loose mean mg mb h₀)
  (CH : CodeHd h₀ 429 427)
  (N : News h₀ L s.heap ([(cT, oT), (cO, oO), (cLt, oLt), (cH, oH), (cE, oE), (cP, oP), (cC, oC), (cM, oM), (427, tabObj #[])] ++ RR))
  (d1 : oT.data = .cell (some (.ref tl)))
  (d2 : oO.data = .cell (some (.ref o.od)))
  (d3 : oLt.data = .cell none)
  (d4 : oH.data = .cell (some (.ref hl)))
  (d5 : oE.data = .cell (some (.ref el)))
  (d6 : oP.data = .cell (some (.ref xh)))
  (d7 : oC.data = .cell none)
  (d8 : oM.data = .cell (some (.int (n : Int) tm)))
  (k0 : @LT.lt Nat _ 427 L)
  (k1 : @LT.lt Nat _ L cJ)
  (k2 : @LT.lt Nat _ cJ cM)
  (k3 : @LT.lt Nat _ cM cC)
  (k4 : @LT.lt Nat _ cC cP)
  (k5 : @LT.lt Nat _ cP cE)
  (k6 : @LT.lt Nat _ cE cH)
  (k7 : @LT.lt Nat _ cH cLt)
  (k8 : @LT.lt Nat _ cLt cO)
  (k9 : @LT.lt Nat _ cO cT)
  (u2 : ∀ q ∈ RR, q.1 ≠ cLt)
  (u6 : ∀ q ∈ RR, q.1 ≠ cC)
  (u7 : ∀ q ∈ RR, q.1 ≠ 427)
  (r1 : (el, listOf #[] ce) ∈ RR)
  (r2 : (hl, listOf vh.toArray nh) ∈ RR)
  (r3 : (z, listOf #[] nz) ∈ RR)
  (r4 : (xh, instObj 218 dh) ∈ RR)
  (r5 : (dh, heapD w.params h1 h2 h3 hn lim last z) ∈ RR)
  (r6 : (tl, listOf ((List.range n).map fun j => Value.ref (x j)).toArray nt) ∈ RR)
  (r7 : ∀ q ∈ o.ex vh2 vd vf [] c6, q ∈ RR)
  (r8 : ∀ j, j < n → (d j, (θ j).obj w.params ((j : Int) + 1) .none) ∈ RR ∧ (x j, instObj 78 (d j)) ∈ RR ∧ (wk j, listOf #[] (nw j)) ∈ RR ∧ (it j, listOf #[] (ni j)) ∈ RR ∧ (q j, listOf (pv j).toArray (cq j)) ∈ RR)
  (r9 : (P, listOf pls.toArray cP') ∈ RR)
  (r10 : (Pe, listOf pes.toArray cE') ∈ RR)
  (nd14 : (olds cC cP cH cT cO cLt cE xh dh hl el tl o.od o.pl).Nodup)
  (hzo : z ∉ olds cC cP cH cT cO cLt cE xh dh hl el tl o.od o.pl)
  (dne : ∀ i j, i < n → j < n → i ≠ j → @Ne Nat (d i) (d j))
  (dro : ∀ i j, i < n → j < n → @Ne Nat (d i) (x j) ∧ @Ne Nat (d i) (wk j) ∧ @Ne Nat (d i) (it j) ∧ @Ne Nat (d i) (q j))
  (dB : ∀ j, j < n → ∀ b ∈ z :: olds cC cP cH cT cO cLt cE xh dh hl el tl o.od o.pl, @Ne Nat b (d j) ∧ @Ne Nat b (x j) ∧ @Ne Nat b (wk j) ∧ @Ne Nat b (it j) ∧ @Ne Nat b (q j))
  (oB : ∀ b ∈ [o.hl, o.dl, o.fl, o.bll, o.gl, cM, P, Pe, 427], b ∉ z :: olds cC cP cH cT cO cLt cE xh dh hl el tl o.od o.pl ∧ ∀ j, j < n → @Ne Nat b (d j) ∧ @Ne Nat b (x j) ∧ @Ne Nat b (wk j) ∧ @Ne Nat b (it j) ∧ @Ne Nat b (q j))
  (oR : ∀ b ∈ [cM, P, Pe, 427], b ∉ o.adr)
  (items : ∀ j, j < n → o.vp[j]? = some (.ref (q j)) ∧ IntsAre (pv j) (plan.getD j []))
  (hth : ∀ j, j < n → (θ j).cnt = 0 ∧ (θ j).wk = wk j ∧ (θ j).it = it j ∧ (θ j).dest = false ∧ (θ j).freed = false)
  (g1 : BoolsAre vh S.held)
  (g3 : BoolsAre vh2 S.held)
  (g4 : BoolsAre vd S.done)
  (g5 : BoolsAre vf S.freed)
  (g6 : S.log = [])
  (gl : S.Len n)
  (hS0 : ∀ j, j < n → S.held.getD j false = true ∧ S.done.getD j false = false ∧ S.freed.getD j false = false)
  (hpl : m (PySem.Str.ofString "listed") = some (.ref P))
  (hps : IntsAre pls ps)
  (hin : ∀ q ∈ ps, 0 ≤ q ∧ q < (n : Int))
  (hlp : ps.length ≤ 10)
  (hpe : m (PySem.Str.ofString "early") = some (.ref Pe))
  (hes : IntsAre pes es)
  (hine : ∀ q ∈ es, 0 ≤ q ∧ q < (n : Int))
  (hd : dp + 60 < recursionLimit)
  (hu : un + 600 < cLine)
  (ret : ∀ h' tk' m', Fr h₀ L h' m' → GrownAt 427 h' → Q (.ret (.bool true)) { s with heap := h', toks := tk' }) : wpAny (model Pr w) (ktrTop dp un gd (PySem.Str.ofString "law") lawScope L a (.ref 429) (lawClA cT cO cLt cH cE cP cC cM cJ) outer) (execs (lawRest 9) (envX (PySem.Str.ofString "law") lawScope L a (.ref 429) (lawClA cT cO cLt cH cE cP cC cM cJ))) Q E s :=
  C_law_defs.all (w, p, loose, mean, mg, mb, o, plan, bl, n, dp, un, gd, a, outer, A₀, base, h₀, L, m, s, Q, E, cT, cO, cLt, cH, cE, cP, cC, cM, cJ, oT, oO, oLt, oH, oE, oP, oC, oM, tl, hl, el, xh, dh, z, lim, P, Pe, h1, h2, h3, hn, tm, last, ce, nh, nz, nt, cP', cE', c6, vh, vh2, vd, vf, pls, pes, x, d, wk, it, q, nw, ni, cq, pv, θ, ps, es, RR) S OW hvp B F X T CH N d1 d2 d3 d4 d5 d6 d7 d8 k0 k1 k2 k3 k4 k5 k6 k7 k8 k9 u2 u6 u7 r1 r2 r3 r4 r5 r6 r7 r8 r9 r10 nd14 hzo dne dro dB oB oR items hth g1 g3 g4 g5 g6 gl hS0 hpl hps hin hlp hpe hes hine hd hu ret
end Mine
end
theorem Mine.rs_LawThings2 : True := by
  w_top off
  trivial
section
open PySem PySem.W PyProof.Rows PySem.Calls LSm
namespace Mine
noncomputable def upF {α : Type} (f : Nat → α) (i : Nat) (v : α) : Nat → α := fun j => if j = i then v else f j
theorem upF_self {α : Type} {f : Nat → α} {i : Nat} {v : α} : upF f i v i = v := if_pos rfl
theorem upF_ne {α : Type} {f : Nat → α} {i j : Nat} {v : α} (h : j ≠ i) : upF f i v j = f j := if_neg h
/-- the things made so far -/
noncomputable def tls (w : World) (i : Nat) (x d wk it : Nat → Addr) (nw ni : Nat → Nat) (θ : Nat → Th) : List (Addr × Obj) :=
  (List.range i).map (fun j => (d j, (θ j).obj w.params ((j : Int) + 1) .none)) ++ (List.range i).flatMap fun j => [(x j, instObj 78 (d j)), (wk j, listOf #[] (nw j)), (it j, listOf #[] (ni j))]
theorem tls_cases {w : World} {i : Nat} {x d wk it : Nat → Addr} {nw ni : Nat → Nat} {θ : Nat → Th} {p : Addr × Obj} : p ∈ tls w i x d wk it nw ni θ ↔ ∃ j, j < i ∧ (p = (d j, (θ j).obj w.params ((j : Int) + 1) .none) ∨ p = (x j, instObj 78 (d j)) ∨ p = (wk j, listOf #[] (nw j)) ∨ p = (it j, listOf #[] (ni j))) := by
  constructor
  · intro h
    rcases List.mem_append.mp h with h | h
    · obtain ⟨j, hj, rfl⟩ := List.mem_map.mp h
      exact ⟨j, List.mem_range.mp hj, .inl rfl⟩
    · obtain ⟨j, hj, hp⟩ := List.mem_flatMap.mp h
      replace hp := mem_ors hp
      exact ⟨j, List.mem_range.mp hj, .inr hp⟩
  · rintro ⟨j, hj, rfl | h⟩
    · exact List.mem_append_left _ (List.mem_map.mpr ⟨j, List.mem_range.mpr hj, rfl⟩)
    · exact List.mem_append_right _ (List.mem_flatMap.mpr ⟨j, List.mem_range.mpr hj, by simpa only [List.mem_cons, List.not_mem_nil, or_false] using h⟩)
structure ThsOk (i : Nat) (BA : List Addr) (x d wk it : Nat → Addr) (θ : Nat → Th) : Prop where
  th : ∀ j, j < i → (θ j).cnt = 0 ∧ (θ j).wk = wk j ∧ (θ j).it = it j ∧ (θ j).dest = false ∧ (θ j).freed = false
  dne : ∀ j k, j < i → k < i → j ≠ k → @Ne Nat (d j) (d k)
  dro : ∀ j k, j < i → k < i → @Ne Nat (d j) (x k) ∧ @Ne Nat (d j) (wk k) ∧ @Ne Nat (d j) (it k)
  off : ∀ j, j < i → ∀ b ∈ BA, @Ne Nat b (d j) ∧ @Ne Nat b (x j) ∧ @Ne Nat b (wk j) ∧ @Ne Nat b (it j)
theorem ThsOk.step {w : World} {i : Nat} {BA : List Addr} {x d wk it : Nat → Addr} {nw ni : Nat → Nat} {θ : Nat → Th} (h : ThsOk i BA x d wk it θ) {xn dn wn jn : Addr} {t : Th} (f1 : ∀ b ∈ BA, @Ne Nat b xn ∧ @Ne Nat b dn ∧ @Ne Nat b wn ∧ @Ne Nat b jn)
    (f2 : ∀ p ∈ tls w i x d wk it nw ni θ, @Ne Nat p.1 xn ∧ @Ne Nat p.1 dn ∧ @Ne Nat p.1 wn ∧ @Ne Nat p.1 jn) (f3 : @Ne Nat dn xn ∧ @Ne Nat dn wn ∧ @Ne Nat dn jn) (f4 : t.cnt = 0 ∧ t.wk = wn ∧ t.it = jn ∧ t.dest = false ∧ t.freed = false) :
    ThsOk (i + 1) BA (upF x i xn) (upF d i dn) (upF wk i wn) (upF it i jn) (upF θ i t) := by
  have m1 : ∀ j, j < i → (d j, (θ j).obj w.params ((j : Int) + 1) .none) ∈ tls w i x d wk it nw ni θ := fun j hj => tls_cases.mpr ⟨j, hj, .inl rfl⟩
  have m2 : ∀ j, j < i → (x j, instObj 78 (d j)) ∈ tls w i x d wk it nw ni θ := fun j hj => tls_cases.mpr ⟨j, hj, .inr (.inl rfl)⟩
  have m3 : ∀ j, j < i → (wk j, listOf #[] (nw j)) ∈ tls w i x d wk it nw ni θ := fun j hj => tls_cases.mpr ⟨j, hj, .inr (.inr (.inl rfl))⟩
  have m4 : ∀ j, j < i → (it j, listOf #[] (ni j)) ∈ tls w i x d wk it nw ni θ := fun j hj => tls_cases.mpr ⟨j, hj, .inr (.inr (.inr rfl))⟩
  refine ⟨fun j hj => ?_, fun j k hj hk hjk => ?_, fun j k hj hk => ?_, fun j hj b hb => ?_⟩
  · by_cases e : j = i
    · subst e; simp only [upF_self]; exact f4
    · simp only [upF_ne e]; exact h.th j (by omega)
  · by_cases e : j = i
    · subst e
      rw [upF_self, upF_ne (Ne.symm hjk)]
      exact Ne.symm (f2 _ (m1 k (by omega))).2.1
    · rw [upF_ne e]
      by_cases e2 : k = i
      · subst e2; rw [upF_self]; exact (f2 _ (m1 j (by omega))).2.1
      · rw [upF_ne e2]; exact h.dne j k (by omega) (by omega) hjk
  · by_cases e : j = i
    · subst e
      rw [upF_self]
      by_cases e2 : k = j
      · subst e2; simp only [upF_self]; exact f3
      · simp only [upF_ne e2]
        exact ⟨Ne.symm (f2 _ (m2 k (by omega))).2.1, Ne.symm (f2 _ (m3 k (by omega))).2.1, Ne.symm (f2 _ (m4 k (by omega))).2.1⟩
    · rw [upF_ne e]
      by_cases e2 : k = i
      · subst e2; simp only [upF_self]
        obtain ⟨a1, _, a3, a4⟩ := f2 _ (m1 j (by omega))
        exact ⟨a1, a3, a4⟩
      · simp only [upF_ne e2]; exact h.dro j k (by omega) (by omega)
  · by_cases e : j = i
    · subst e; simp only [upF_self]
      obtain ⟨a1, a2, a3, a4⟩ := f1 b hb
      exact ⟨a2, a1, a3, a4⟩
    · simp only [upF_ne e]; exact h.off j (by omega) b hb
theorem tls_step {w : World} {i : Nat} {x d wk it : Nat → Addr} {nw ni : Nat → Nat} {θ : Nat → Th} {xn dn wn jn : Addr} {c1 c2 : Nat} {t : Th} {p : Addr × Obj} (h : p ∈ tls w (i + 1) (upF x i xn) (upF d i dn) (upF wk i wn) (upF it i jn) (upF nw i c1) (upF ni i c2) (upF θ i t)) :
    p ∈ tls w i x d wk it nw ni θ ∨ p ∈ [(xn, instObj 78 dn), (dn, t.obj w.params ((i : Int) + 1) .none), (wn, listOf #[] c1), (jn, listOf #[] c2)] := by
  obtain ⟨j, hj, h⟩ := tls_cases.mp h
  by_cases e : j = i
  · subst e
    simp only [upF_self] at h
    refine .inr ?_
    simp only [List.mem_cons, List.not_mem_nil, or_false]
    rcases h with h | h | h | h
    · exact .inr (.inl h)
    · exact .inl h
    · exact .inr (.inr (.inl h))
    · exact .inr (.inr (.inr h))
  · simp only [upF_ne e] at h
    exact .inl (tls_cases.mpr ⟨j, by omega, h⟩)
theorem notin_ne {l : List Addr} {a : Addr} (h : a ∉ l) : ∀ c ∈ l, @Ne Nat a c := fun c hc e => h (by have e : a = c := e; rw [e]; exact hc)
namespace C_law_things2
noncomputable abbrev XX : Type := (World) × (Program) × (List PySem.Str) × (ExcName → Option Value) × (PySem.Str → Option Value) × (PySem.Str → Option Value) × (OwnA) × (List (List Int)) × (List Bool) × (Nat) × (Nat) × (Nat) × (Option (List Code)) × (Addr) × (List Env) × (Around) × (Heap) × (Heap) × (Addr) × (PySem.Str → Option Value) × (Shared) × (Flow → Shared → Prop) × (Value → Shared → Prop) × (Addr) × (Addr) × (Addr) × (Addr) × (Addr) × (Addr) × (Addr) × (Addr) × (Addr) × (Obj) × (Obj) × (Obj) × (Obj) × (Obj) × (Obj) × (Obj) × (Obj) × (Addr) × (Addr) × (Addr) × (Addr) × (Addr) × (Addr) × (Addr) × (Addr) × (Tok) × (Tok) × (Tok) × (Tok) × (Tok) × (Nat) × (Nat) × (Nat) × (List Value) × (List Value) × (List Value) × (List Value) × (List Value) × (List Value) × (Nat → Addr) × (Nat → Nat) × (Nat → List Value) × (List Int) × (List Int) × (List (Addr × Obj))
noncomputable def StX (w : World) (p : Program) (loose : List PySem.Str) (mean : ExcName → Option Value) (mg : PySem.Str → Option Value) (mb : PySem.Str → Option Value) (o : OwnA) (plan : List (List Int)) (bl : List Bool) (n : Nat) (dp : Nat) (un : Nat) (gd : Option (List Code)) (a : Addr) (outer : List Env) (A₀ : Around) (base : Heap) (h₀ : Heap) (L : Addr) (m : PySem.Str → Option Value) (s : Shared) (Q : Flow → Shared → Prop) (E : Value → Shared → Prop) (cT : Addr) (cO : Addr) (cLt : Addr) (cH : Addr) (cE : Addr) (cP : Addr) (cC : Addr) (cM : Addr) (cJ : Addr) (oT : Obj) (oO : Obj) (oLt : Obj) (oH : Obj) (oE : Obj) (oP : Obj) (oC : Obj) (oM : Obj) (hl : Addr) (el : Addr) (xh : Addr) (dh : Addr) (z : Addr) (lim : Addr) (P : Addr) (Pe : Addr) (t1 : Tok) (t2 : Tok) (t3 : Tok) (tn : Tok) (tm : Tok) (cP' : Nat) (cE' : Nat) (c6 : Nat) (vh : List Value) (vh2 : List Value) (vd : List Value) (vf : List Value) (pls : List Value) (pes : List Value) (q : Nat → Addr) (cq : Nat → Nat) (pv : Nat → List Value) (ps : List Int) (es : List Int) (R : List (Addr × Obj)) : Prop :=
  ∀ (S : S) (OW : OwnOk w o plan bl n) (hvp : o.vp.length = n) (B : Below A₀ base outer h₀) (F : Fr h₀ L s.heap m) (X : (hd.heap_1 w.params).In h₀) (T : Top p loose mean mg mb h₀) (CH : CodeHd h₀ 429 427) (N : News h₀ L s.heap ([(el, listOf #[] 0), (hl, listOf vh.toArray 0), (z, listOf #[] 0), (xh, instObj 218 dh), (dh, heapD w.params t1 t2 t3 tn lim 0 z), (cT, oT), (cO, oO), (cLt, oLt), (cH, oH), (cE, oE), (cP, oP), (cC, oC), (cM, oM), (427, tabObj #[])] ++ R)) (d1 : oT.data = .cell none) (d2 : oO.data = .cell (some (.ref o.od))) (d3 : oLt.data = .cell none) (d4 : oH.data = .cell (some (.ref hl))) (d5 : oE.data = .cell (some (.ref el))) (d6 : oP.data = .cell (some (.ref xh))) (d7 : oC.data = .cell none) (d8 : oM.data = .cell (some (.int (n : Int) tm))) (k0 : @LT.lt Nat _ 427 L) (k1 : @LT.lt Nat _ L cJ) (k2 : @LT.lt Nat _ cJ cM) (k3 : @LT.lt Nat _ cM cC) (k4 : @LT.lt Nat _ cC cP) (k5 : @LT.lt Nat _ cP cE) (k6 : @LT.lt Nat _ cE cH) (k7 : @LT.lt Nat _ cH cLt) (k8 : @LT.lt Nat _ cLt cO) (k9 : @LT.lt Nat _ cO cT) (l1 : @LT.lt Nat _ cT dh) (l2 : @LT.lt Nat _ dh xh) (l3 : @LT.lt Nat _ xh z) (l4 : @LT.lt Nat _ z hl) (l5 : @LT.lt Nat _ hl el) (hR : ∀ p ∈ R, p.1 ∉ [cT, cO, cLt, cH, cE, cP, cC, cM, 427] ∧ @LT.lt Nat _ p.1 dh) (r7 : ∀ p ∈ o.ex vh2 vd vf [] c6, p ∈ R) (r8 : ∀ j, j < n → (q j, listOf (pv j).toArray (cq j)) ∈ R) (r9 : (P, listOf pls.toArray cP') ∈ R) (r10 : (Pe, listOf pes.toArray cE') ∈ R) (hq : ∀ j, j < n → q j ∉ o.adr ∧ @Ne Nat P (q j) ∧ @Ne Nat Pe (q j)) (hPo : P ∉ o.adr ∧ Pe ∉ o.adr) (items : ∀ j, j < n → o.vp[j]? = some (.ref (q j)) ∧ IntsAre (pv j) (plan.getD j [])) (g1 : BoolsAre vh S.held) (g3 : BoolsAre vh2 S.held) (g4 : BoolsAre vd S.done) (g5 : BoolsAre vf S.freed) (g6 : S.log = []) (gl : S.Len n) (hS0 : ∀ j, j < n → S.held.getD j false = true ∧ S.done.getD j false = false ∧ S.freed.getD j false = false) (hpl : m (PySem.Str.ofString "listed") = some (.ref P)) (hps : IntsAre pls ps) (hin : ∀ q ∈ ps, 0 ≤ q ∧ q < (n : Int)) (hlp : ps.length ≤ 10) (hpe : m (PySem.Str.ofString "early") = some (.ref Pe)) (hes : IntsAre pes es) (hine : ∀ q ∈ es, 0 ≤ q ∧ q < (n : Int)) (hd : dp + 60 < recursionLimit) (hu : un + 600 < cLine) (ret : ∀ h' tk' m', Fr h₀ L h' m' → GrownAt 427 h' → Q (.ret (.bool true)) { s with heap := h', toks := tk' }), wpAny (model Pr w) (ktrTop dp un gd (PySem.Str.ofString "law") lawScope L a (.ref 429) (lawClA cT cO cLt cH cE cP cC cM cJ) outer) (execs (lawRest 8) (envX (PySem.Str.ofString "law") lawScope L a (.ref 429) (lawClA cT cO cLt cH cE cP cC cM cJ))) Q E s
theorem neX : Nonempty XX := by
  refine ⟨?_⟩
  repeat' (first | exact default | exact aWorld 1 | constructor | intro _)
noncomputable def cX : XX := @Classical.epsilon XX neX fun x => ¬ StX (x.1) (x.2.1) (x.2.2.1) (x.2.2.2.1) (x.2.2.2.2.1) (x.2.2.2.2.2.1) (x.2.2.2.2.2.2.1) (x.2.2.2.2.2.2.2.1) (x.2.2.2.2.2.2.2.2.1) (x.2.2.2.2.2.2.2.2.2.1) (x.2.2.2.2.2.2.2.2.2.2.1) (x.2.2.2.2.2.2.2.2.2.2.2.1) (x.2.2.2.2.2.2.2.2.2.2.2.2.1) (x.2.2.2.2.2.2.2.2.2.2.2.2.2.1) (x.2.2.2.2.2.2.2.2.2.2.2.2.2.2.1) (x.2.2.2.2.2.2.2.2.2.2.2.2.2.2.2.1) (x.2.2.2.2.2.2.2.2.2.2.2.2.2.2.2.2.1) (x.2.2.2.2.2.2.2.2.2.2.2.2.2.2.2.2.2.1) (x.2.2.2.2.2.2.2.2.2.2.2.2.2.2.2.2.2.2.1) (x.2.2.2.2.2.2.2.2.2.2.2.2.2.2.2.2.2.2.2.1) (x.2.2.2.2.2.2.2.2.2.2.2.2.2.2.2.2.2.2.2.2.1) (x.2.2.2.2.2.2.2.2.2.2.2.2.2.2.2.2.2.2.2.2.2.1) (x.2.2.2.2.2.2.2.2.2.2.2.2.2.2.2.2.2.2.2.2.2.2.1) (x.2.2.2.2.2.2.2.2.2.2.2.2.2.2.2.2.2.2.2.2.2.2.2.1) (x.2.2.2.2.2.2.2.2.2.2.2.2.2.2.2.2.2.2.2.2.2.2.2.2.1) (x.2.2.2.2.2.2.2.2.2.2.2.2.2.2.2.2.2.2.2.2.2.2.2.2.2.1) (x.2.2.2.2.2.2.2.2.2.2.2.2.2.2.2.2.2.2.2.2.2.2.2.2.2.2.1) (x.2.2.2.2.2.2.2.2.2.2.2.2.2.2.2.2.2.2.2.2.2.2.2.2.2.2.2.1) (x.2.2.2.2.2.2.2.2.2.2.2.2.2.2.2.2.2.2.2.2.2.2.2.2.2.2.2.2.1) (x.2.2.2.2.2.2.2.2.2.2.2.2.2.2.2.2.2.2.2.2.2.2.2.2.2.2.2.2.2.1) (x.2.2.2.2.2.2.2.2.2.2.2.2.2.2.2.2.2.2.2.2.2.2.2.2.2.2.2.2.2.2.1) (x.2.2.2.2.2.2.2.2.2.2.2.2.2.2.2.2.2.2.2.2.2.2.2.2.2.2.2.2.2.2.2.1) (x.2.2.2.2.2.2.2.2.2.2.2.2.2.2.2.2.2.2.2.2.2.2.2.2.2.2.2.2.2.2.2.2.1) (x.2.2.2.2.2.2.2.2.2.2.2.2.2.2.2.2.2.2.2.2.2.2.2.2.2.2.2.2.2.2.2.2.2.1) (x.2.2.2.2.2.2.2.2.2.2.2.2.2.2.2.2.2.2.2.2.2.2.2.2.2.2.2.2.2.2.2.2.2.2.1) (x.2.2.2.2.2.2.2.2.2.2.2.2.2.2.2.2.2.2.2.2.2.2.2.2.2.2.2.2.2.2.2.2.2.2.2.1) (x.2.2.2.2.2.2.2.2.2.2.2.2.2.2.2.2.2.2.2.2.2.2.2.2.2.2.2.2.2.2.2.2.2.2.2.2.1) (x.2.2.2.2.2.2.2.2.2.2.2.2.2.2.2.2.2.2.2.2.2.2.2.2.2.2.2.2.2.2.2.2.2.2.2.2.2.1) (x.2.2.2.2.2.2.2.2.2.2.2.2.2.2.2.2.2.2.2.2.2.2.2.2.2.2.2.2.2.2.2.2.2.2.2.2.2.2.1) (x.2.2.2.2.2.2.2.2.2.2.2.2.2.2.2.2.2.2.2.2.2.2.2.2.2.2.2.2.2.2.2.2.2.2.2.2.2.2.2.1) (x.2.2.2.2.2.2.2.2.2.2.2.2.2.2.2.2.2.2.2.2.2.2.2.2.2.2.2.2.2.2.2.2.2.2.2.2.2.2.2.2.1) (x.2.2.2.2.2.2.2.2.2.2.2.2.2.2.2.2.2.2.2.2.2.2.2.2.2.2.2.2.2.2.2.2.2.2.2.2.2.2.2.2.2.1) (x.2.2.2.2.2.2.2.2.2.2.2.2.2.2.2.2.2.2.2.2.2.2.2.2.2.2.2.2.2.2.2.2.2.2.2.2.2.2.2.2.2.2.1) (x.2.2.2.2.2.2.2.2.2.2.2.2.2.2.2.2.2.2.2.2.2.2.2.2.2.2.2.2.2.2.2.2.2.2.2.2.2.2.2.2.2.2.2.1) (x.2.2.2.2.2.2.2.2.2.2.2.2.2.2.2.2.2.2.2.2.2.2.2.2.2.2.2.2.2.2.2.2.2.2.2.2.2.2.2.2.2.2.2.2.1) (x.2.2.2.2.2.2.2.2.2.2.2.2.2.2.2.2.2.2.2.2.2.2.2.2.2.2.2.2.2.2.2.2.2.2.2.2.2.2.2.2.2.2.2.2.2.1) (x.2.2.2.2.2.2.2.2.2.2.2.2.2.2.2.2.2.2.2.2.2.2.2.2.2.2.2.2.2.2.2.2.2.2.2.2.2.2.2.2.2.2.2.2.2.2.1) (x.2.2.2.2.2.2.2.2.2.2.2.2.2.2.2.2.2.2.2.2.2.2.2.2.2.2.2.2.2.2.2.2.2.2.2.2.2.2.2.2.2.2.2.2.2.2.2.1) (x.2.2.2.2.2.2.2.2.2.2.2.2.2.2.2.2.2.2.2.2.2.2.2.2.2.2.2.2.2.2.2.2.2.2.2.2.2.2.2.2.2.2.2.2.2.2.2.2.1) (x.2.2.2.2.2.2.2.2.2.2.2.2.2.2.2.2.2.2.2.2.2.2.2.2.2.2.2.2.2.2.2.2.2.2.2.2.2.2.2.2.2.2.2.2.2.2.2.2.2.1) (x.2.2.2.2.2.2.2.2.2.2.2.2.2.2.2.2.2.2.2.2.2.2.2.2.2.2.2.2.2.2.2.2.2.2.2.2.2.2.2.2.2.2.2.2.2.2.2.2.2.2.1) (x.2.2.2.2.2.2.2.2.2.2.2.2.2.2.2.2.2.2.2.2.2.2.2.2.2.2.2.2.2.2.2.2.2.2.2.2.2.2.2.2.2.2.2.2.2.2.2.2.2.2.2.1) (x.2.2.2.2.2.2.2.2.2.2.2.2.2.2.2.2.2.2.2.2.2.2.2.2.2.2.2.2.2.2.2.2.2.2.2.2.2.2.2.2.2.2.2.2.2.2.2.2.2.2.2.2.1) (x.2.2.2.2.2.2.2.2.2.2.2.2.2.2.2.2.2.2.2.2.2.2.2.2.2.2.2.2.2.2.2.2.2.2.2.2.2.2.2.2.2.2.2.2.2.2.2.2.2.2.2.2.2.1) (x.2.2.2.2.2.2.2.2.2.2.2.2.2.2.2.2.2.2.2.2.2.2.2.2.2.2.2.2.2.2.2.2.2.2.2.2.2.2.2.2.2.2.2.2.2.2.2.2.2.2.2.2.2.2.1) (x.2.2.2.2.2.2.2.2.2.2.2.2.2.2.2.2.2.2.2.2.2.2.2.2.2.2.2.2.2.2.2.2.2.2.2.2.2.2.2.2.2.2.2.2.2.2.2.2.2.2.2.2.2.2.2.1) (x.2.2.2.2.2.2.2.2.2.2.2.2.2.2.2.2.2.2.2.2.2.2.2.2.2.2.2.2.2.2.2.2.2.2.2.2.2.2.2.2.2.2.2.2.2.2.2.2.2.2.2.2.2.2.2.2.1) (x.2.2.2.2.2.2.2.2.2.2.2.2.2.2.2.2.2.2.2.2.2.2.2.2.2.2.2.2.2.2.2.2.2.2.2.2.2.2.2.2.2.2.2.2.2.2.2.2.2.2.2.2.2.2.2.2.2.1) (x.2.2.2.2.2.2.2.2.2.2.2.2.2.2.2.2.2.2.2.2.2.2.2.2.2.2.2.2.2.2.2.2.2.2.2.2.2.2.2.2.2.2.2.2.2.2.2.2.2.2.2.2.2.2.2.2.2.2.1) (x.2.2.2.2.2.2.2.2.2.2.2.2.2.2.2.2.2.2.2.2.2.2.2.2.2.2.2.2.2.2.2.2.2.2.2.2.2.2.2.2.2.2.2.2.2.2.2.2.2.2.2.2.2.2.2.2.2.2.2.1) (x.2.2.2.2.2.2.2.2.2.2.2.2.2.2.2.2.2.2.2.2.2.2.2.2.2.2.2.2.2.2.2.2.2.2.2.2.2.2.2.2.2.2.2.2.2.2.2.2.2.2.2.2.2.2.2.2.2.2.2.2.1) (x.2.2.2.2.2.2.2.2.2.2.2.2.2.2.2.2.2.2.2.2.2.2.2.2.2.2.2.2.2.2.2.2.2.2.2.2.2.2.2.2.2.2.2.2.2.2.2.2.2.2.2.2.2.2.2.2.2.2.2.2.2.1) (x.2.2.2.2.2.2.2.2.2.2.2.2.2.2.2.2.2.2.2.2.2.2.2.2.2.2.2.2.2.2.2.2.2.2.2.2.2.2.2.2.2.2.2.2.2.2.2.2.2.2.2.2.2.2.2.2.2.2.2.2.2.2.1) (x.2.2.2.2.2.2.2.2.2.2.2.2.2.2.2.2.2.2.2.2.2.2.2.2.2.2.2.2.2.2.2.2.2.2.2.2.2.2.2.2.2.2.2.2.2.2.2.2.2.2.2.2.2.2.2.2.2.2.2.2.2.2.2.1) (x.2.2.2.2.2.2.2.2.2.2.2.2.2.2.2.2.2.2.2.2.2.2.2.2.2.2.2.2.2.2.2.2.2.2.2.2.2.2.2.2.2.2.2.2.2.2.2.2.2.2.2.2.2.2.2.2.2.2.2.2.2.2.2.2.1) (x.2.2.2.2.2.2.2.2.2.2.2.2.2.2.2.2.2.2.2.2.2.2.2.2.2.2.2.2.2.2.2.2.2.2.2.2.2.2.2.2.2.2.2.2.2.2.2.2.2.2.2.2.2.2.2.2.2.2.2.2.2.2.2.2.2.1) (x.2.2.2.2.2.2.2.2.2.2.2.2.2.2.2.2.2.2.2.2.2.2.2.2.2.2.2.2.2.2.2.2.2.2.2.2.2.2.2.2.2.2.2.2.2.2.2.2.2.2.2.2.2.2.2.2.2.2.2.2.2.2.2.2.2.2.1) (x.2.2.2.2.2.2.2.2.2.2.2.2.2.2.2.2.2.2.2.2.2.2.2.2.2.2.2.2.2.2.2.2.2.2.2.2.2.2.2.2.2.2.2.2.2.2.2.2.2.2.2.2.2.2.2.2.2.2.2.2.2.2.2.2.2.2.2)
@[irreducible] noncomputable def w := cX.1
@[irreducible] noncomputable def p := cX.2.1
@[irreducible] noncomputable def loose := cX.2.2.1
@[irreducible] noncomputable def mean := cX.2.2.2.1
@[irreducible] noncomputable def mg := cX.2.2.2.2.1
@[irreducible] noncomputable def mb := cX.2.2.2.2.2.1
@[irreducible] noncomputable def o := cX.2.2.2.2.2.2.1
@[irreducible] noncomputable def plan := cX.2.2.2.2.2.2.2.1
@[irreducible] noncomputable def bl := cX.2.2.2.2.2.2.2.2.1
@[irreducible] noncomputable def n := cX.2.2.2.2.2.2.2.2.2.1
@[irreducible] noncomputable def dp := cX.2.2.2.2.2.2.2.2.2.2.1
@[irreducible] noncomputable def un := cX.2.2.2.2.2.2.2.2.2.2.2.1
@[irreducible] noncomputable def gd := cX.2.2.2.2.2.2.2.2.2.2.2.2.1
@[irreducible] noncomputable def a := cX.2.2.2.2.2.2.2.2.2.2.2.2.2.1
@[irreducible] noncomputable def outer := cX.2.2.2.2.2.2.2.2.2.2.2.2.2.2.1
@[irreducible] noncomputable def A₀ := cX.2.2.2.2.2.2.2.2.2.2.2.2.2.2.2.1
@[irreducible] noncomputable def base := cX.2.2.2.2.2.2.2.2.2.2.2.2.2.2.2.2.1
@[irreducible] noncomputable def h₀ := cX.2.2.2.2.2.2.2.2.2.2.2.2.2.2.2.2.2.1
@[irreducible] noncomputable def L := cX.2.2.2.2.2.2.2.2.2.2.2.2.2.2.2.2.2.2.1
@[irreducible] noncomputable def m := cX.2.2.2.2.2.2.2.2.2.2.2.2.2.2.2.2.2.2.2.1
@[irreducible] noncomputable def s := cX.2.2.2.2.2.2.2.2.2.2.2.2.2.2.2.2.2.2.2.2.1
@[irreducible] noncomputable def Q := cX.2.2.2.2.2.2.2.2.2.2.2.2.2.2.2.2.2.2.2.2.2.1
@[irreducible] noncomputable def E := cX.2.2.2.2.2.2.2.2.2.2.2.2.2.2.2.2.2.2.2.2.2.2.1
@[irreducible] noncomputable def cT := cX.2.2.2.2.2.2.2.2.2.2.2.2.2.2.2.2.2.2.2.2.2.2.2.1
@[irreducible] noncomputable def cO := cX.2.2.2.2.2.2.2.2.2.2.2.2.2.2.2.2.2.2.2.2.2.2.2.2.1
@[irreducible] noncomputable def cLt := cX.2.2.2.2.2.2.2.2.2.2.2.2.2.2.2.2.2.2.2.2.2.2.2.2.2.1
@[irreducible] noncomputable def cH := cX.2.2.2.2.2.2.2.2.2.2.2.2.2.2.2.2.2.2.2.2.2.2.2.2.2.2.1
@[irreducible] noncomputable def cE := cX.2.2.2.2.2.2.2.2.2.2.2.2.2.2.2.2.2.2.2.2.2.2.2.2.2.2.2.1
@[irreducible] noncomputable def cP := cX.2.2.2.2.2.2.2.2.2.2.2.2.2.2.2.2.2.2.2.2.2.2.2.2.2.2.2.2.1
@[irreducible] noncomputable def cC := cX.2.2.2.2.2.2.2.2.2.2.2.2.2.2.2.2.2.2.2.2.2.2.2.2.2.2.2.2.2.1
@[irreducible] noncomputable def cM := cX.2.2.2.2.2.2.2.2.2.2.2.2.2.2.2.2.2.2.2.2.2.2.2.2.2.2.2.2.2.2.1
@[irreducible] noncomputable def cJ := cX.2.2.2.2.2.2.2.2.2.2.2.2.2.2.2.2.2.2.2.2.2.2.2.2.2.2.2.2.2.2.2.1
@[irreducible] noncomputable def oT := cX.2.2.2.2.2.2.2.2.2.2.2.2.2.2.2.2.2.2.2.2.2.2.2.2.2.2.2.2.2.2.2.2.1
@[irreducible] noncomputable def oO := cX.2.2.2.2.2.2.2.2.2.2.2.2.2.2.2.2.2.2.2.2.2.2.2.2.2.2.2.2.2.2.2.2.2.1
@[irreducible] noncomputable def oLt := cX.2.2.2.2.2.2.2.2.2.2.2.2.2.2.2.2.2.2.2.2.2.2.2.2.2.2.2.2.2.2.2.2.2.2.1
@[irreducible] noncomputable def oH := cX.2.2.2.2.2.2.2.2.2.2.2.2.2.2.2.2.2.2.2.2.2.2.2.2.2.2.2.2.2.2.2.2.2.2.2.1
@[irreducible] noncomputable def oE := cX.2.2.2.2.2.2.2.2.2.2.2.2.2.2.2.2.2.2.2.2.2.2.2.2.2.2.2.2.2.2.2.2.2.2.2.2.1
@[irreducible] noncomputable def oP := cX.2.2.2.2.2.2.2.2.2.2.2.2.2.2.2.2.2.2.2.2.2.2.2.2.2.2.2.2.2.2.2.2.2.2.2.2.2.1
@[irreducible] noncomputable def oC := cX.2.2.2.2.2.2.2.2.2.2.2.2.2.2.2.2.2.2.2.2.2.2.2.2.2.2.2.2.2.2.2.2.2.2.2.2.2.2.1
@[irreducible] noncomputable def oM := cX.2.2.2.2.2.2.2.2.2.2.2.2.2.2.2.2.2.2.2.2.2.2.2.2.2.2.2.2.2.2.2.2.2.2.2.2.2.2.2.1
@[irreducible] noncomputable def hl := cX.2.2.2.2.2.2.2.2.2.2.2.2.2.2.2.2.2.2.2.2.2.2.2.2.2.2.2.2.2.2.2.2.2.2.2.2.2.2.2.2.1
@[irreducible] noncomputable def el := cX.2.2.2.2.2.2.2.2.2.2.2.2.2.2.2.2.2.2.2.2.2.2.2.2.2.2.2.2.2.2.2.2.2.2.2.2.2.2.2.2.2.1
@[irreducible] noncomputable def xh := cX.2.2.2.2.2.2.2.2.2.2.2.2.2.2.2.2.2.2.2.2.2.2.2.2.2.2.2.2.2.2.2.2.2.2.2.2.2.2.2.2.2.2.1
@[irreducible] noncomputable def dh := cX.2.2.2.2.2.2.2.2.2.2.2.2.2.2.2.2.2.2.2.2.2.2.2.2.2.2.2.2.2.2.2.2.2.2.2.2.2.2.2.2.2.2.2.1
@[irreducible] noncomputable def z := cX.2.2.2.2.2.2.2.2.2.2.2.2.2.2.2.2.2.2.2.2.2.2.2.2.2.2.2.2.2.2.2.2.2.2.2.2.2.2.2.2.2.2.2.2.1
@[irreducible] noncomputable def lim := cX.2.2.2.2.2.2.2.2.2.2.2.2.2.2.2.2.2.2.2.2.2.2.2.2.2.2.2.2.2.2.2.2.2.2.2.2.2.2.2.2.2.2.2.2.2.1
@[irreducible] noncomputable def P := cX.2.2.2.2.2.2.2.2.2.2.2.2.2.2.2.2.2.2.2.2.2.2.2.2.2.2.2.2.2.2.2.2.2.2.2.2.2.2.2.2.2.2.2.2.2.2.1
@[irreducible] noncomputable def Pe := cX.2.2.2.2.2.2.2.2.2.2.2.2.2.2.2.2.2.2.2.2.2.2.2.2.2.2.2.2.2.2.2.2.2.2.2.2.2.2.2.2.2.2.2.2.2.2.2.1
@[irreducible] noncomputable def t1 := cX.2.2.2.2.2.2.2.2.2.2.2.2.2.2.2.2.2.2.2.2.2.2.2.2.2.2.2.2.2.2.2.2.2.2.2.2.2.2.2.2.2.2.2.2.2.2.2.2.1
@[irreducible] noncomputable def t2 := cX.2.2.2.2.2.2.2.2.2.2.2.2.2.2.2.2.2.2.2.2.2.2.2.2.2.2.2.2.2.2.2.2.2.2.2.2.2.2.2.2.2.2.2.2.2.2.2.2.2.1
@[irreducible] noncomputable def t3 := cX.2.2.2.2.2.2.2.2.2.2.2.2.2.2.2.2.2.2.2.2.2.2.2.2.2.2.2.2.2.2.2.2.2.2.2.2.2.2.2.2.2.2.2.2.2.2.2.2.2.2.1
@[irreducible] noncomputable def tn := cX.2.2.2.2.2.2.2.2.2.2.2.2.2.2.2.2.2.2.2.2.2.2.2.2.2.2.2.2.2.2.2.2.2.2.2.2.2.2.2.2.2.2.2.2.2.2.2.2.2.2.2.1
@[irreducible] noncomputable def tm := cX.2.2.2.2.2.2.2.2.2.2.2.2.2.2.2.2.2.2.2.2.2.2.2.2.2.2.2.2.2.2.2.2.2.2.2.2.2.2.2.2.2.2.2.2.2.2.2.2.2.2.2.2.1
@[irreducible] noncomputable def cP' := cX.2.2.2.2.2.2.2.2.2.2.2.2.2.2.2.2.2.2.2.2.2.2.2.2.2.2.2.2.2.2.2.2.2.2.2.2.2.2.2.2.2.2.2.2.2.2.2.2.2.2.2.2.2.1
@[irreducible] noncomputable def cE' := cX.2.2.2.2.2.2.2.2.2.2.2.2.2.2.2.2.2.2.2.2.2.2.2.2.2.2.2.2.2.2.2.2.2.2.2.2.2.2.2.2.2.2.2.2.2.2.2.2.2.2.2.2.2.2.1
@[irreducible] noncomputable def c6 := cX.2.2.2.2.2.2.2.2.2.2.2.2.2.2.2.2.2.2.2.2.2.2.2.2.2.2.2.2.2.2.2.2.2.2.2.2.2.2.2.2.2.2.2.2.2.2.2.2.2.2.2.2.2.2.2.1
@[irreducible] noncomputable def vh := cX.2.2.2.2.2.2.2.2.2.2.2.2.2.2.2.2.2.2.2.2.2.2.2.2.2.2.2.2.2.2.2.2.2.2.2.2.2.2.2.2.2.2.2.2.2.2.2.2.2.2.2.2.2.2.2.2.1
@[irreducible] noncomputable def vh2 := cX.2.2.2.2.2.2.2.2.2.2.2.2.2.2.2.2.2.2.2.2.2.2.2.2.2.2.2.2.2.2.2.2.2.2.2.2.2.2.2.2.2.2.2.2.2.2.2.2.2.2.2.2.2.2.2.2.2.1
@[irreducible] noncomputable def vd := cX.2.2.2.2.2.2.2.2.2.2.2.2.2.2.2.2.2.2.2.2.2.2.2.2.2.2.2.2.2.2.2.2.2.2.2.2.2.2.2.2.2.2.2.2.2.2.2.2.2.2.2.2.2.2.2.2.2.2.1
@[irreducible] noncomputable def vf := cX.2.2.2.2.2.2.2.2.2.2.2.2.2.2.2.2.2.2.2.2.2.2.2.2.2.2.2.2.2.2.2.2.2.2.2.2.2.2.2.2.2.2.2.2.2.2.2.2.2.2.2.2.2.2.2.2.2.2.2.1
@[irreducible] noncomputable def pls := cX.2.2.2.2.2.2.2.2.2.2.2.2.2.2.2.2.2.2.2.2.2.2.2.2.2.2.2.2.2.2.2.2.2.2.2.2.2.2.2.2.2.2.2.2.2.2.2.2.2.2.2.2.2.2.2.2.2.2.2.2.1
@[irreducible] noncomputable def pes := cX.2.2.2.2.2.2.2.2.2.2.2.2.2.2.2.2.2.2.2.2.2.2.2.2.2.2.2.2.2.2.2.2.2.2.2.2.2.2.2.2.2.2.2.2.2.2.2.2.2.2.2.2.2.2.2.2.2.2.2.2.2.1
@[irreducible] noncomputable def q := cX.2.2.2.2.2.2.2.2.2.2.2.2.2.2.2.2.2.2.2.2.2.2.2.2.2.2.2.2.2.2.2.2.2.2.2.2.2.2.2.2.2.2.2.2.2.2.2.2.2.2.2.2.2.2.2.2.2.2.2.2.2.2.1
@[irreducible] noncomputable def cq := cX.2.2.2.2.2.2.2.2.2.2.2.2.2.2.2.2.2.2.2.2.2.2.2.2.2.2.2.2.2.2.2.2.2.2.2.2.2.2.2.2.2.2.2.2.2.2.2.2.2.2.2.2.2.2.2.2.2.2.2.2.2.2.2.1
@[irreducible] noncomputable def pv := cX.2.2.2.2.2.2.2.2.2.2.2.2.2.2.2.2.2.2.2.2.2.2.2.2.2.2.2.2.2.2.2.2.2.2.2.2.2.2.2.2.2.2.2.2.2.2.2.2.2.2.2.2.2.2.2.2.2.2.2.2.2.2.2.2.1
@[irreducible] noncomputable def ps := cX.2.2.2.2.2.2.2.2.2.2.2.2.2.2.2.2.2.2.2.2.2.2.2.2.2.2.2.2.2.2.2.2.2.2.2.2.2.2.2.2.2.2.2.2.2.2.2.2.2.2.2.2.2.2.2.2.2.2.2.2.2.2.2.2.2.1
@[irreducible] noncomputable def es := cX.2.2.2.2.2.2.2.2.2.2.2.2.2.2.2.2.2.2.2.2.2.2.2.2.2.2.2.2.2.2.2.2.2.2.2.2.2.2.2.2.2.2.2.2.2.2.2.2.2.2.2.2.2.2.2.2.2.2.2.2.2.2.2.2.2.2.1
@[irreducible] noncomputable def R := cX.2.2.2.2.2.2.2.2.2.2.2.2.2.2.2.2.2.2.2.2.2.2.2.2.2.2.2.2.2.2.2.2.2.2.2.2.2.2.2.2.2.2.2.2.2.2.2.2.2.2.2.2.2.2.2.2.2.2.2.2.2.2.2.2.2.2.2
theorem core : StX w p loose mean mg mb o plan bl n dp un gd a outer A₀ base h₀ L m s Q E cT cO cLt cH cE cP cC cM cJ oT oO oLt oH oE oP oC oM hl el xh dh z lim P Pe t1 t2 t3 tn tm cP' cE' c6 vh vh2 vd vf pls pes q cq pv ps es R := by
  unfold StX
  intro S OW hvp B F X T CH N d1 d2 d3 d4 d5 d6 d7 d8 k0 k1 k2 k3 k4 k5 k6 k7 k8 k9 l1 l2 l3 l4 l5 hR r7 r8 r9 r10 hq hPo items g1 g3 g4 g5 g6 gl hS0 hpl hps hin hlp hpe hes hine hd hu ret
  unfold Pr
  refine wpAny_noRaise ?_
  rw [show lawRest 8 = _ :: lawRest 9 from rfl]
  rw [show lawScope = { kind := _, names := _, isGenerator := _, isCoroutine := _, more := _ } from rfl]
  revert X; k_fill; intro X
  have hn5 := OW.small
  have ecM := d8
  have ecP := d6
  have Nw := fun _ : Unit => N
  have N1 : News h₀ L s.heap [(cM, oM)] := news_sub N (fun p hp => by rw [List.mem_singleton.mp hp]; exact List.mem_append_left _ (by first | k_mem | simp))
  clear N
  repeat' ((fail_if_success (with_reducible show LCg.CompSrc _ _ _ _ _ _ _ _ _ _ _ _ _ _)); (first | (k_unfold; (try dsimp only)) | walk1 | (dsimp only; walk1) | fail "no step"))
  rename IsRange _ _ _ _ _ _ _ _ => hRg
  rename Fr _ _ _ _ => F9
  rename ∀ b o, Heap.get? _ b = some o → Heap.get? _ b = some o => kp0
  have N2 : News h₀ L _ (tls w 0 (fun _ => 0) (fun _ => 0) (fun _ => 0) (fun _ => 0) (fun _ => 0) (fun _ => 0) (fun _ => ⟨0, 0, 0, 0, 0, 0, 0, 0, 0, 0, 0, 0, false, false, 0⟩) ++ ([(el, listOf #[] 0), (hl, listOf vh.toArray 0), (z, listOf #[] 0), (xh, instObj 218 dh), (dh, heapD w.params t1 t2 t3 tn lim 0 z), (cT, oT), (cO, oO), (cLt, oLt), (cH, oH), (cE, oE), (cP, oP), (cC, oC), (cM, oM), (427, tabObj #[])] ++ R)) := fun p hp => ⟨kp0 _ _ ((Nw ()) p hp).1, ((Nw ()) p hp).2⟩
  k_dflt (refine' LCg.CompSrc.range (n := n) ?hh F9 N2 hRg (rng_small hn5) (rng_size hn5) ?zz ?_)
  case hh => rfl
  case zz => rw [PySem.sizeLine_eq]; omega
  intro gh
  (repeat ((rename News _ _ _ _ => N2x); clear N2x))
  refine comp_inv (fun i ys nx => ∃ x d wk it nw ni θ tn', ys = (List.range i).map (fun j => Value.ref (x j)) ∧ nx = tls w i x d wk it nw ni θ ++ ([(el, listOf #[] 0), (hl, listOf vh.toArray 0), (z, listOf #[] 0), (xh, instObj 218 dh), (dh, heapD w.params t1 t2 t3 tn' lim (i : Int) z), (cT, oT), (cO, oO), (cLt, oLt), (cH, oH), (cE, oE), (cP, oP), (cC, oC), (cM, oM), (427, tabObj #[])] ++ R) ∧ ThsOk i (([(el, listOf #[] 0), (hl, listOf vh.toArray 0), (z, listOf #[] 0), (xh, instObj 218 dh), (dh, heapD w.params t1 t2 t3 tn lim 0 z), (cT, oT), (cO, oO), (cLt, oLt), (cH, oH), (cE, oE), (cP, oP), (cC, oC), (cM, oM), (427, tabObj #[])] ++ R).map (·.1)) x d wk it θ) ?_ ⟨_, _, _, _, _, _, _, tn, rfl, rfl, ⟨fun j h => absurd h (Nat.not_lt_zero _), fun j _ h => absurd h (Nat.not_lt_zero _), fun j _ h => absurd h (Nat.not_lt_zero _), fun j h => absurd h (Nat.not_lt_zero _)⟩⟩ ?_
  · rintro i v I oI C oC' D m₂ ys nx h tk E' hi ⟨t, rfl⟩ ⟨x, d, wk, it, nw, ni, θ, tn', rfl, rfl, hT⟩ hC hx F2 N2 off ne2
    have N2w := fun _ : Unit => N2
    have N3 : News h₀ L h [(cP, oP), (xh, instObj 218 dh), (dh, heapD w.params t1 t2 t3 tn' lim (i : Int) z)] := fun p hp => N2 p (.tail _ (.tail _ (.tail _ (List.mem_append_right _ (List.mem_append_left _ (by
      replace hp := mem_ors hp
      rcases hp with rfl | rfl | rfl <;> first | k_mem | simp))))))
    clear N2
    (try k_fold)
    repeat' ((fail_if_success (with_reducible show wpAny _ _ (call (Value.ref _) _) _ _ _)); (first | (k_unfold; (try dsimp only)) | walk1 | (dsimp only; walk1) | fail "no step"))
    dsimp only
    have NW := N2w ()
    clear N3
    have mB : ∀ p ∈ [(el, listOf #[] 0), (hl, listOf vh.toArray 0), (z, listOf #[] 0), (xh, instObj 218 dh), (dh, heapD w.params t1 t2 t3 tn' lim (i : Int) z), (cT, oT), (cO, oO), (cLt, oLt), (cH, oH), (cE, oE), (cP, oP), (cC, oC), (cM, oM), (427, tabObj #[])], p ∈ (I, oI) :: (C, oC') :: (D, LCg.lst ((List.range i).map fun j => Value.ref (x j))) :: (tls w i x d wk it nw ni θ ++ ([(el, listOf #[] 0), (hl, listOf vh.toArray 0), (z, listOf #[] 0), (xh, instObj 218 dh), (dh, heapD w.params t1 t2 t3 tn' lim (i : Int) z), (cT, oT), (cO, oO), (cLt, oLt), (cH, oH), (cE, oE), (cP, oP), (cC, oC), (cM, oM), (427, tabObj #[])] ++ R)) := fun p hp => .tail _ (.tail _ (.tail _ (List.mem_append_right _ (List.mem_append_left _ hp))))
    obtain ⟨R2, N4, hoff, hs, hs2⟩ := split_news (Ex := [(xh, instObj 218 dh), (dh, heapD w.params t1 t2 t3 tn' lim (i : Int) z)]) NW (fun p hp => mB p (by
      replace hp := mem_ors hp
      rcases hp with rfl | rfl <;> first | k_mem | simp))
    have off2 := off.mem
    have offA : ∀ b ∈ ([(el, listOf #[] 0), (hl, listOf vh.toArray 0), (z, listOf #[] 0), (xh, instObj 218 dh), (dh, heapD w.params t1 t2 t3 tn' lim (i : Int) z), (cT, oT), (cO, oO), (cLt, oLt), (cH, oH), (cE, oE), (cP, oP), (cC, oC), (cM, oM), (427, tabObj #[])] ++ R).map (·.1), b ≠ I ∧ b ≠ C ∧ b ≠ D := fun b hb => by
      obtain ⟨p, hp, rfl⟩ := List.mem_map.mp hb
      exact off2 p (List.mem_append_right _ hp)
    have hdhA : dh ∈ ([(el, listOf #[] 0), (hl, listOf vh.toArray 0), (z, listOf #[] 0), (xh, instObj 218 dh), (dh, heapD w.params t1 t2 t3 tn lim 0 z), (cT, oT), (cO, oO), (cLt, oLt), (cH, oH), (cE, oE), (cP, oP), (cC, oC), (cM, oM), (427, tabObj #[])] ++ R).map (·.1) := by simp
    have hxd : @Ne Nat xh dh := by omega
    have hdh : ∀ p ∈ (I, oI) :: (C, oC') :: (D, LCg.lst ((List.range i).map fun j => Value.ref (x j))) :: (tls w i x d wk it nw ni θ ++ ([(el, listOf #[] 0), (hl, listOf vh.toArray 0), (z, listOf #[] 0), (xh, instObj 218 dh), (dh, heapD w.params t1 t2 t3 tn' lim (i : Int) z), (cT, oT), (cO, oO), (cLt, oLt), (cH, oH), (cE, oE), (cP, oP), (cC, oC), (cM, oM), (427, tabObj #[])] ++ R)), p = (dh, heapD w.params t1 t2 t3 tn' lim (i : Int) z) ∨ p.1 ≠ dh := fun p hp => by
      obtain ⟨a1, a2, a3⟩ := offA dh hdhA
      rcases List.mem_cons.mp hp with rfl | hp
      · exact .inr (Ne.symm a1)
      rcases List.mem_cons.mp hp with rfl | hp
      · exact .inr (Ne.symm a2)
      rcases List.mem_cons.mp hp with rfl | hp
      · exact .inr (Ne.symm a3)
      rcases List.mem_append.mp hp with hp | hp
      · obtain ⟨j, hj, hp⟩ := tls_cases.mp hp
        obtain ⟨b1, b2, b3, b4⟩ := hT.off j hj dh hdhA
        rcases hp with rfl | rfl | rfl | rfl
        · exact .inr (Ne.symm b1)
        · exact .inr (Ne.symm b2)
        · exact .inr (Ne.symm b3)
        · exact .inr (Ne.symm b4)
      rcases List.mem_append.mp hp with hp | hp
      · replace hp := mem_ors hp
        rcases hp with rfl | rfl | rfl | rfl | rfl | rfl | rfl | rfl | rfl | rfl | rfl | rfl | rfl | rfl <;> first | exact .inl rfl | exact .inr (by show ¬ @Eq Nat _ _; first | (refine Nat.ne_of_lt ?_; (repeat (first | with_reducible assumption | refine Nat.lt_trans (by with_reducible assumption) ?_)); done) | (refine Nat.ne_of_gt ?_; (repeat (first | with_reducible assumption | refine Nat.lt_trans (by with_reducible assumption) ?_)); done) | with_reducible assumption | exact Ne.symm (by with_reducible assumption) | omega)
      · exact .inr (Nat.ne_of_lt (hR p hp).2)
    k_dflt (refine' new_ex B F2 X T ?k5 N4 hoff hxd (by omega) (by omega) ?kd ?ku ?_)
    case k5 => rfl
    case kd => ktr_room
    case ku => ktr_units
    intro h6 tk6 xn dn wn jn tn6 c1 c2 θn F6 N6 f1 f2 f3 f4 f5 f6 f7
    have fw : ∀ p ∈ (I, oI) :: (C, oC') :: (D, LCg.lst ((List.range i).map fun j => Value.ref (x j))) :: (tls w i x d wk it nw ni θ ++ ([(el, listOf #[] 0), (hl, listOf vh.toArray 0), (z, listOf #[] 0), (xh, instObj 218 dh), (dh, heapD w.params t1 t2 t3 tn' lim (i : Int) z), (cT, oT), (cO, oO), (cLt, oLt), (cH, oH), (cE, oE), (cP, oP), (cC, oC), (cM, oM), (427, tabObj #[])] ++ R)), @Ne Nat p.1 xn ∧ @Ne Nat p.1 dn ∧ @Ne Nat p.1 wn ∧ @Ne Nat p.1 jn := fun p hp => f6 p (hs p hp)
    have keep : ∀ p ∈ (I, oI) :: (C, oC') :: (D, LCg.lst ((List.range i).map fun j => Value.ref (x j))) :: (tls w i x d wk it nw ni θ ++ ([(el, listOf #[] 0), (hl, listOf vh.toArray 0), (z, listOf #[] 0), (xh, instObj 218 dh), (dh, heapD w.params t1 t2 t3 tn' lim (i : Int) z), (cT, oT), (cO, oO), (cLt, oLt), (cH, oH), (cE, oE), (cP, oP), (cC, oC), (cM, oM), (427, tabObj #[])] ++ R)), p.1 ≠ dh → h6.get? p.1 = some p.2 ∧ p.1 ≠ L ∧ h₀.get? p.1 = none := fun p hp hne => by
      rcases List.mem_append.mp (hs p hp) with h1 | h1
      · replace h1 := mem_ors h1
        rcases h1 with rfl | rfl
        · exact N6 _ (.tail _ (.tail _ (.tail _ (.tail _ (.head _)))))
        · exact absurd rfl hne
      · exact N6 p (List.mem_append_right _ h1)
    have keep3 : ∀ p ∈ (I, oI) :: (C, oC') :: (D, LCg.lst ((List.range i).map fun j => Value.ref (x j))) :: (tls w i x d wk it nw ni θ ++ R), h6.get? p.1 = some p.2 ∧ p.1 ≠ L ∧ h₀.get? p.1 = none := fun p hp => by
      have hp2 : p ∈ (I, oI) :: (C, oC') :: (D, LCg.lst ((List.range i).map fun j => Value.ref (x j))) :: (tls w i x d wk it nw ni θ ++ ([(el, listOf #[] 0), (hl, listOf vh.toArray 0), (z, listOf #[] 0), (xh, instObj 218 dh), (dh, heapD w.params t1 t2 t3 tn' lim (i : Int) z), (cT, oT), (cO, oO), (cLt, oLt), (cH, oH), (cE, oE), (cP, oP), (cC, oC), (cM, oM), (427, tabObj #[])] ++ R)) := by
        rcases List.mem_cons.mp hp with rfl | hp
        · exact .head _
        rcases List.mem_cons.mp hp with rfl | hp
        · exact .tail _ (.head _)
        rcases List.mem_cons.mp hp with rfl | hp
        · exact .tail _ (.tail _ (.head _))
        rcases List.mem_append.mp hp with hp | hp
        · exact .tail _ (.tail _ (.tail _ (List.mem_append_left _ hp)))
        · exact .tail _ (.tail _ (.tail _ (List.mem_append_right _ (List.mem_append_right _ hp))))
      refine keep p hp2 fun e => ?_
      obtain ⟨a1, a2, a3⟩ := offA dh hdhA
      rcases List.mem_cons.mp hp with rfl | hp
      · exact a1 e.symm
      rcases List.mem_cons.mp hp with rfl | hp
      · exact a2 e.symm
      rcases List.mem_cons.mp hp with rfl | hp
      · exact a3 e.symm
      rcases List.mem_append.mp hp with hp | hp
      · obtain ⟨j, hj, hp⟩ := tls_cases.mp hp
        obtain ⟨b1, b2, b3, b4⟩ := hT.off j hj dh hdhA
        rcases hp with rfl | rfl | rfl | rfl
        · exact b1 e.symm
        · exact b2 e.symm
        · exact b3 e.symm
        · exact b4 e.symm
      · exact absurd e (Nat.ne_of_lt (hR p hp).2)
    have ei : (((i + 1 : Nat)) : Int) = (i : Int) + 1 := by omega
    refine ⟨h6, tk6, tls w (i + 1) (upF x i xn) (upF d i dn) (upF wk i wn) (upF it i jn) (upF nw i c1) (upF ni i c2) (upF θ i θn) ++ ([(el, listOf #[] 0), (hl, listOf vh.toArray 0), (z, listOf #[] 0), (xh, instObj 218 dh), (dh, heapD w.params t1 t2 t3 tn6 lim ((i + 1 : Nat) : Int) z), (cT, oT), (cO, oO), (cLt, oLt), (cH, oH), (cE, oE), (cP, oP), (cC, oC), (cM, oM), (427, tabObj #[])] ++ R), rfl, F6, fun p hp => ?_, LCg.Off3.of fun p hp => ?_, trivial, upF x i xn, upF d i dn, upF wk i wn, upF it i jn, upF nw i c1, upF ni i c2, upF θ i θn, tn6, ?_, rfl, hT.step (nw := nw) (ni := ni) (w := w) (fun b hb => ?_) (fun p hp => fw p (.tail _ (.tail _ (.tail _ (List.mem_append_left _ hp))))) f7 ⟨f1, f2, f3, f4, f5⟩⟩
    · rcases List.mem_cons.mp hp with rfl | hp
      · exact keep3 _ (.head _)
      rcases List.mem_cons.mp hp with rfl | hp
      · exact keep3 _ (.tail _ (.head _))
      rcases List.mem_cons.mp hp with rfl | hp
      · exact keep3 _ (.tail _ (.tail _ (.head _)))
      rcases List.mem_append.mp hp with hp | hp
      · rcases tls_step hp with hp | hp
        · exact keep3 _ (.tail _ (.tail _ (.tail _ (List.mem_append_left _ hp))))
        · refine N6 p (List.mem_append_left _ ?_)
          simp only [List.mem_cons, List.not_mem_nil, or_false] at hp ⊢
          rcases hp with h | h | h | h
          · exact .inl h
          · exact .inr (.inl h)
          · exact .inr (.inr (.inl h))
          · exact .inr (.inr (.inr (.inl h)))
      rcases List.mem_append.mp hp with hp | hp
      · have N6d := N6 (dh, heapD w.params t1 t2 t3 tn6 lim ((i : Int) + 1) z) (List.mem_append_left _ (by first | k_mem | simp))
        replace hp := mem_ors hp
        rcases hp with rfl | rfl | rfl | rfl | rfl | rfl | rfl | rfl | rfl | rfl | rfl | rfl | rfl | rfl <;> first | exact (ei ▸ N6d) | exact keep _ (mB _ (by first | k_mem | simp)) (by show ¬ @Eq Nat _ _; first | (refine Nat.ne_of_lt ?_; (repeat (first | with_reducible assumption | refine Nat.lt_trans (by with_reducible assumption) ?_)); done) | (refine Nat.ne_of_gt ?_; (repeat (first | with_reducible assumption | refine Nat.lt_trans (by with_reducible assumption) ?_)); done) | with_reducible assumption | exact Ne.symm (by with_reducible assumption) | omega)
      · exact keep3 _ (.tail _ (.tail _ (.tail _ (List.mem_append_right _ hp))))
    · rcases List.mem_append.mp hp with hp | hp
      · rcases tls_step hp with hp | hp
        · exact off2 p (List.mem_append_left _ hp)
        · obtain ⟨a1, a2, a3, a4⟩ := fw _ (.head _)
          obtain ⟨b1, b2, b3, b4⟩ := fw _ (.tail _ (.head _))
          obtain ⟨c1', c2', c3', c4'⟩ := fw _ (.tail _ (.tail _ (.head _)))
          replace hp := mem_ors hp
          rcases hp with rfl | rfl | rfl | rfl
          · exact ⟨Ne.symm a1, Ne.symm b1, Ne.symm c1'⟩
          · exact ⟨Ne.symm a2, Ne.symm b2, Ne.symm c2'⟩
          · exact ⟨Ne.symm a3, Ne.symm b3, Ne.symm c3'⟩
          · exact ⟨Ne.symm a4, Ne.symm b4, Ne.symm c4'⟩
      · exact offA p.1 (show p.1 ∈ ([(el, listOf #[] 0), (hl, listOf vh.toArray 0), (z, listOf #[] 0), (xh, instObj 218 dh), (dh, heapD w.params t1 t2 t3 tn' lim (i : Int) z), (cT, oT), (cO, oO), (cLt, oLt), (cH, oH), (cE, oE), (cP, oP), (cC, oC), (cM, oM), (427, tabObj #[])] ++ R).map (·.1) from (List.mem_map_of_mem (f := Prod.fst) hp : p.1 ∈ ([(el, listOf #[] 0), (hl, listOf vh.toArray 0), (z, listOf #[] 0), (xh, instObj 218 dh), (dh, heapD w.params t1 t2 t3 tn6 lim ((i + 1 : Nat) : Int) z), (cT, oT), (cO, oO), (cLt, oLt), (cH, oH), (cE, oE), (cP, oP), (cC, oC), (cM, oM), (427, tabObj #[])] ++ R).map Prod.fst))
    · rw [List.range_succ, List.map_append, List.map_cons, List.map_nil, upF_self]
      congr 1
      refine List.map_congr_left fun j hj => ?_
      rw [upF_ne (Nat.ne_of_lt (List.mem_range.mp hj))]
    · obtain ⟨p, hp, rfl⟩ := List.mem_map.mp (show b ∈ ([(el, listOf #[] 0), (hl, listOf vh.toArray 0), (z, listOf #[] 0), (xh, instObj 218 dh), (dh, heapD w.params t1 t2 t3 tn' lim (i : Int) z), (cT, oT), (cO, oO), (cLt, oLt), (cH, oH), (cE, oE), (cP, oP), (cC, oC), (cM, oM), (427, tabObj #[])] ++ R).map (·.1) from hb)
      exact fw p (.tail _ (.tail _ (.tail _ (List.mem_append_right _ hp))))
  · rintro ys nx ⟨x, d, wk, it, nw, ni, θ, tn', rfl, rfl, hT⟩
    unfold LCg.FinE
    intro tl hD tkD F2 N2' o1
    have o2 := off1_mem o1
    have mB : ∀ p ∈ [(el, listOf #[] 0), (hl, listOf vh.toArray 0), (z, listOf #[] 0), (xh, instObj 218 dh), (dh, heapD w.params t1 t2 t3 tn' lim (n : Int) z), (cT, oT), (cO, oO), (cLt, oLt), (cH, oH), (cE, oE), (cP, oP), (cC, oC), (cM, oM), (427, tabObj #[])], p ∈ (tl, LCg.lst ((List.range n).map fun j => Value.ref (x j))) :: (tls w n x d wk it nw ni θ ++ ([(el, listOf #[] 0), (hl, listOf vh.toArray 0), (z, listOf #[] 0), (xh, instObj 218 dh), (dh, heapD w.params t1 t2 t3 tn' lim (n : Int) z), (cT, oT), (cO, oO), (cLt, oLt), (cH, oH), (cE, oE), (cP, oP), (cC, oC), (cM, oM), (427, tabObj #[])] ++ R)) := fun p hp => .tail _ (List.mem_append_right _ (List.mem_append_left _ hp))
    obtain ⟨R3, N4, ho, hs, _⟩ := split_news (Ex := [(cT, oT)]) N2' (fun p hp => mB p (by rw [List.mem_singleton.mp hp]; simp))
    have hcT : ∀ p ∈ R3, p.1 ≠ cT := fun p hp => ho p hp _ (.head _)
    clear N2' F9
    simp only [List.cons_append, List.nil_append] at N4
    (try dsimp only)
    (try k_fold)
    repeat' ((fail_if_success (with_reducible show wpAny _ _ (execs (lawRest 9) _) _ _ _)); (first | (k_unfold; (try dsimp only)) | walk1 | (dsimp only; walk1) | fail "no step"))
    rename News _ _ _ _ => N5
    rename Fr _ _ _ _ => F5
    rename Obj.data _ = Data.cell (some (Value.ref tl)) => eT
    obtain ⟨oT2, eT2, NT⟩ : ∃ v : Obj, v.data = .cell (some (.ref tl)) ∧ News h₀ L _ [(cT, v)] := ⟨_, eT, fun p hp => by rw [List.mem_singleton.mp hp]; exact N5 _ (.head _)⟩
    have keep : ∀ p ∈ (tl, LCg.lst ((List.range n).map fun j => Value.ref (x j))) :: (tls w n x d wk it nw ni θ ++ ([(el, listOf #[] 0), (hl, listOf vh.toArray 0), (z, listOf #[] 0), (xh, instObj 218 dh), (dh, heapD w.params t1 t2 t3 tn' lim (n : Int) z), (cT, oT), (cO, oO), (cLt, oLt), (cH, oH), (cE, oE), (cP, oP), (cC, oC), (cM, oM), (427, tabObj #[])] ++ R)), p.1 ≠ cT → Heap.get? _ p.1 = some p.2 ∧ p.1 ≠ L ∧ h₀.get? p.1 = none := fun p hp hne => by
      rcases List.mem_append.mp (hs p hp) with h1 | h1
      · rw [List.mem_singleton.mp h1] at hne; exact absurd rfl hne
      · exact N5 p (.tail _ h1)
    have otl : ∀ b ∈ ([(el, listOf #[] 0), (hl, listOf vh.toArray 0), (z, listOf #[] 0), (xh, instObj 218 dh), (dh, heapD w.params t1 t2 t3 tn lim 0 z), (cT, oT), (cO, oO), (cLt, oLt), (cH, oH), (cE, oE), (cP, oP), (cC, oC), (cM, oM), (427, tabObj #[])] ++ R).map (·.1), @Ne Nat b tl := fun b hb => by
      obtain ⟨p, hp, rfl⟩ := List.mem_map.mp (show b ∈ ([(el, listOf #[] 0), (hl, listOf vh.toArray 0), (z, listOf #[] 0), (xh, instObj 218 dh), (dh, heapD w.params t1 t2 t3 tn' lim (n : Int) z), (cT, oT), (cO, oO), (cLt, oLt), (cH, oH), (cE, oE), (cP, oP), (cC, oC), (cM, oM), (427, tabObj #[])] ++ R).map (·.1) from hb)
      exact o2 p (List.mem_append_right _ hp)
    have otl2 : ∀ p ∈ tls w n x d wk it nw ni θ, @Ne Nat p.1 tl := fun p hp => o2 p (List.mem_append_left _ hp)
    have inR : ∀ p ∈ R, p.1 ∈ ([(el, listOf #[] 0), (hl, listOf vh.toArray 0), (z, listOf #[] 0), (xh, instObj 218 dh), (dh, heapD w.params t1 t2 t3 tn lim 0 z), (cT, oT), (cO, oO), (cLt, oLt), (cH, oH), (cE, oE), (cP, oP), (cC, oC), (cM, oM), (427, tabObj #[])] ++ R).map (·.1) := fun p hp => List.mem_map_of_mem (f := Prod.fst) (List.mem_append_right _ hp)
    have inA : ∀ b ∈ [el, hl, z, xh, dh, cT, cO, cLt, cH, cE, cP, cC, cM, 427], b ∈ ([(el, listOf #[] 0), (hl, listOf vh.toArray 0), (z, listOf #[] 0), (xh, instObj 218 dh), (dh, heapD w.params t1 t2 t3 tn lim 0 z), (cT, oT), (cO, oO), (cLt, oLt), (cH, oH), (cE, oE), (cP, oP), (cC, oC), (cM, oM), (427, tabObj #[])] ++ R).map (·.1) := fun b hb => by
      rw [List.map_append]; exact List.mem_append_left _ hb
    have m1 : ∀ j, j < n → (d j, (θ j).obj w.params ((j : Int) + 1) .none) ∈ tls w n x d wk it nw ni θ := fun j hj => tls_cases.mpr ⟨j, hj, .inl rfl⟩
    have m2 : ∀ j, j < n → (x j, instObj 78 (d j)) ∈ tls w n x d wk it nw ni θ := fun j hj => tls_cases.mpr ⟨j, hj, .inr (.inl rfl)⟩
    have m3 : ∀ j, j < n → (wk j, listOf #[] (nw j)) ∈ tls w n x d wk it nw ni θ := fun j hj => tls_cases.mpr ⟨j, hj, .inr (.inr (.inl rfl))⟩
    have m4 : ∀ j, j < n → (it j, listOf #[] (ni j)) ∈ tls w n x d wk it nw ni θ := fun j hj => tls_cases.mpr ⟨j, hj, .inr (.inr (.inr rfl))⟩
    have modR : (o.od, o.oo) ∈ R := r7 _ (.head _)
    have mplR : (o.pl, listOf o.vp.toArray o.c5) ∈ R := r7 _ (.tail _ (.tail _ (.tail _ (.tail _ (.tail _ (.head _))))))
    obtain ⟨od1, od2⟩ := hR _ modR
    obtain ⟨pl1, pl2⟩ := hR _ mplR
    dsimp only at od1 od2 pl1 pl2
    have od1 := notin_ne od1
    have pl1 := notin_ne pl1
    simp only [List.forall_mem_cons, List.forall_mem_nil, and_true] at od1 pl1
    obtain ⟨od3, od4, od5, od6, od7, od8, od9, odx, ody, _⟩ := od1
    obtain ⟨pl3, pl4, pl5, pl6, pl7, pl8, pl9, plx, ply, _⟩ := pl1
    have odpl : @Ne Nat o.od o.pl := fun e => by
      have := OW.nd
      simp only [List.nodup_cons, List.mem_cons, List.not_mem_nil, or_false, not_or] at this
      exact this.1.2.2.2.2.1 e
    have offRR : ∀ c : Nat, c ≤ cT → c ∈ [cT, cO, cLt, cH, cE, cP, cC, cM, 427] → ∀ p ∈ (tl, LCg.lst ((List.range n).map fun j => Value.ref (x j))) :: (tls w n x d wk it nw ni θ ++ ([(el, listOf #[] 0), (hl, listOf vh.toArray 0), (z, listOf #[] 0), (xh, instObj 218 dh), (dh, heapD w.params t1 t2 t3 tn' lim (n : Int) z)] ++ R)), p.1 ≠ c := fun c hc hm p hp e => by
      have hcA : c ∈ ([(el, listOf #[] 0), (hl, listOf vh.toArray 0), (z, listOf #[] 0), (xh, instObj 218 dh), (dh, heapD w.params t1 t2 t3 tn lim 0 z), (cT, oT), (cO, oO), (cLt, oLt), (cH, oH), (cE, oE), (cP, oP), (cC, oC), (cM, oM), (427, tabObj #[])] ++ R).map (·.1) := inA c (List.mem_append_right [el, hl, z, xh, dh] hm)
      rcases List.mem_cons.mp hp with rfl | hp
      · exact otl c hcA e.symm
      rcases List.mem_append.mp hp with hp | hp
      · obtain ⟨j, hj, hp⟩ := tls_cases.mp hp
        obtain ⟨b1, b2, b3, b4⟩ := hT.off j hj c hcA
        rcases hp with rfl | rfl | rfl | rfl
        · exact b1 e.symm
        · exact b2 e.symm
        · exact b3 e.symm
        · exact b4 e.symm
      rcases List.mem_append.mp hp with hp | hp
      · replace hp := mem_ors hp
        rcases hp with rfl | rfl | rfl | rfl | rfl <;> (revert e; show ¬ @Eq Nat _ _; first | (refine Nat.ne_of_lt ?_; (repeat (first | with_reducible assumption | refine Nat.lt_trans (by with_reducible assumption) ?_)); done) | (refine Nat.ne_of_gt ?_; (repeat (first | with_reducible assumption | refine Nat.lt_trans (by with_reducible assumption) ?_)); done) | with_reducible assumption | exact Ne.symm (by with_reducible assumption) | omega)
      · have := (hR p hp).1
        rw [e] at this
        exact this hm
    have oldc : ∀ b ∈ olds cC cP cH cT cO cLt cE xh dh hl el tl o.od o.pl, b = tl ∨ b ∈ ([(el, listOf #[] 0), (hl, listOf vh.toArray 0), (z, listOf #[] 0), (xh, instObj 218 dh), (dh, heapD w.params t1 t2 t3 tn lim 0 z), (cT, oT), (cO, oO), (cLt, oLt), (cH, oH), (cE, oE), (cP, oP), (cC, oC), (cM, oM), (427, tabObj #[])] ++ R).map (·.1) := fun b hb => by
      replace hb := mem_ors hb
      rcases hb with rfl | rfl | rfl | rfl | rfl | rfl | rfl | rfl | rfl | rfl | rfl | rfl | rfl | rfl <;> first | exact .inl rfl | exact .inr (inR _ modR) | exact .inr (inR _ mplR) | exact .inr (inA _ (by first | k_mem | simp))
    have tlB : ∀ b ∈ [cC, cP, cH, cT, cO, cLt, cE, xh, dh, hl, el, z], @Ne Nat b tl := fun b hb => otl b (inA b (by
      replace hb := mem_ors hb
      rcases hb with rfl | rfl | rfl | rfl | rfl | rfl | rfl | rfl | rfl | rfl | rfl | rfl <;> first | k_mem | simp))
    have tlod : @Ne Nat o.od tl := otl _ (inR _ modR)
    have tlpl : @Ne Nat o.pl tl := otl _ (inR _ mplR)
    have nd14 : (olds cC cP cH cT cO cLt cE xh dh hl el tl o.od o.pl).Nodup := by
      simp only [List.forall_mem_cons, List.forall_mem_nil, and_true] at tlB
      obtain ⟨y1, y2, y3, y4, y5, y6, y7, y8, y9, y10, y11, y12⟩ := tlB
      have ne : ∀ a b : Nat, a < b ∨ b < a → ¬ (a = b) := fun a b h e => by omega
      have ne2 : ∀ a b : Nat, a ≠ b → ¬ (a = b) := fun a b h => h
      clear hR r7 r8 r9 r10 hq hPo items g1 g3 g4 g5 g6 gl hS0 hps hin hes hine hd hu oldc offRR inA inR otl otl2 keep
      simp only [List.nodup_cons, List.mem_cons, List.not_mem_nil, or_false, not_or, not_false_eq_true, List.nodup_nil, and_true]
      refine ⟨⟨?_, ?_, ?_, ?_, ?_, ?_, ?_, ?_, ?_, ?_, ?_, ?_, ?_⟩, ⟨?_, ?_, ?_, ?_, ?_, ?_, ?_, ?_, ?_, ?_, ?_, ?_⟩, ⟨?_, ?_, ?_, ?_, ?_, ?_, ?_, ?_, ?_, ?_, ?_⟩, ⟨?_, ?_, ?_, ?_, ?_, ?_, ?_, ?_, ?_, ?_⟩, ⟨?_, ?_, ?_, ?_, ?_, ?_, ?_, ?_, ?_⟩, ⟨?_, ?_, ?_, ?_, ?_, ?_, ?_, ?_⟩, ⟨?_, ?_, ?_, ?_, ?_, ?_, ?_⟩, ⟨?_, ?_, ?_, ?_, ?_, ?_⟩, ⟨?_, ?_, ?_, ?_, ?_⟩, ⟨?_, ?_, ?_, ?_⟩, ⟨?_, ?_, ?_⟩, ⟨?_, ?_⟩, ?_⟩ <;>
        first
        | exact ne2 _ _ (by assumption)
        | exact ne2 _ _ (Ne.symm (by assumption))
        | exact ne _ _ (by first | (refine .inl ?_; (repeat (first | with_reducible assumption | refine Nat.lt_trans (by with_reducible assumption) ?_)); done) | (refine .inr ?_; (repeat (first | with_reducible assumption | refine Nat.lt_trans (by with_reducible assumption) ?_)); done) | omega)
    have hzo : z ∉ olds cC cP cH cT cO cLt cE xh dh hl el tl o.od o.pl := fun hm => by
      have tz := tlB z (by first | k_mem | simp)
      replace hm := mem_ors hm
      rcases hm with e | e | e | e | e | e | e | e | e | e | e | e | e | e <;> (revert e; show ¬ @Eq Nat _ _; first | (refine Nat.ne_of_lt ?_; (repeat (first | with_reducible assumption | refine Nat.lt_trans (by with_reducible assumption) ?_)); done) | (refine Nat.ne_of_gt ?_; (repeat (first | with_reducible assumption | refine Nat.lt_trans (by with_reducible assumption) ?_)); done) | with_reducible assumption | exact Ne.symm (by with_reducible assumption) | omega)
    have own14 : ∀ b ∈ [o.hl, o.dl, o.fl, o.bll, o.gl, P, Pe], (∃ v, (b, v) ∈ R) ∧ b ≠ o.od ∧ b ≠ o.pl ∧ ∀ j, j < n → @Ne Nat b (q j) := fun b hb => by
      have ond := OW.nd
      simp only [List.nodup_cons, List.mem_cons, List.not_mem_nil, or_false, not_or, not_false_eq_true, List.nodup_nil, and_true] at ond
      obtain ⟨⟨n1, n2, n3, n4, n5, n6⟩, ⟨n7, n8, n9, n10, n11⟩, ⟨n12, n13, n14, n15⟩, ⟨n16, n17, n18⟩, ⟨n19, n20⟩, n21⟩ := ond
      have oq : ∀ b ∈ o.adr, ∀ j, j < n → @Ne Nat b (q j) := fun b hb j hj e => (hq j hj).1 (e ▸ hb)
      replace hb := mem_ors hb
      rcases hb with rfl | rfl | rfl | rfl | rfl | rfl | rfl
      · exact ⟨⟨_, r7 (o.hl, listOf vh2.toArray o.c1) (by first | k_mem | simp)⟩, Ne.symm n1, n10, oq _ (by first | k_mem | simp)⟩
      · exact ⟨⟨_, r7 (o.dl, listOf vd.toArray o.c2) (by first | k_mem | simp)⟩, Ne.symm n2, n14, oq _ (by first | k_mem | simp)⟩
      · exact ⟨⟨_, r7 (o.fl, listOf vf.toArray o.c3) (by first | k_mem | simp)⟩, Ne.symm n3, n17, oq _ (by first | k_mem | simp)⟩
      · exact ⟨⟨_, r7 (o.bll, listOf o.vb.toArray o.c4) (by first | k_mem | simp)⟩, Ne.symm n4, n19, oq _ (by first | k_mem | simp)⟩
      · exact ⟨⟨_, r7 (o.gl, listOf #[] c6) (by first | k_mem | simp)⟩, Ne.symm n6, Ne.symm n21, oq _ (by first | k_mem | simp)⟩
      · exact ⟨⟨_, r9⟩, fun e => hPo.1 (e ▸ .head _), fun e => hPo.1 (by rw [e]; simp), fun j hj => (hq j hj).2.1⟩
      · exact ⟨⟨_, r10⟩, fun e => hPo.2 (e ▸ .head _), fun e => hPo.2 (by rw [e]; simp), fun j hj => (hq j hj).2.2⟩
    have inRR : ∀ p ∈ R, p ∈ (tl, LCg.lst ((List.range n).map fun j => Value.ref (x j))) :: (tls w n x d wk it nw ni θ ++ ([(el, listOf #[] 0), (hl, listOf vh.toArray 0), (z, listOf #[] 0), (xh, instObj 218 dh), (dh, heapD w.params t1 t2 t3 tn' lim (n : Int) z)] ++ R)) := fun p hp => .tail _ (List.mem_append_right _ (List.mem_append_right _ hp))
    have inT : ∀ p ∈ tls w n x d wk it nw ni θ, p ∈ (tl, LCg.lst ((List.range n).map fun j => Value.ref (x j))) :: (tls w n x d wk it nw ni θ ++ ([(el, listOf #[] 0), (hl, listOf vh.toArray 0), (z, listOf #[] 0), (xh, instObj 218 dh), (dh, heapD w.params t1 t2 t3 tn' lim (n : Int) z)] ++ R)) := fun p hp => .tail _ (List.mem_append_left _ hp)
    have inB : ∀ p ∈ [(el, listOf #[] 0), (hl, listOf vh.toArray 0), (z, listOf #[] 0), (xh, instObj 218 dh), (dh, heapD w.params t1 t2 t3 tn' lim (n : Int) z)], p ∈ (tl, LCg.lst ((List.range n).map fun j => Value.ref (x j))) :: (tls w n x d wk it nw ni θ ++ ([(el, listOf #[] 0), (hl, listOf vh.toArray 0), (z, listOf #[] 0), (xh, instObj 218 dh), (dh, heapD w.params t1 t2 t3 tn' lim (n : Int) z)] ++ R)) := fun p hp => .tail _ (List.mem_append_right _ (List.mem_append_left _ hp))
    refine law_defs OW hvp (tl := tl) (hl := hl) (el := el) (xh := xh) (dh := dh) (z := z) (lim := lim) (h1 := t1) (h2 := t2) (h3 := t3) (hn := tn') (last := (n : Int)) (ce := 0) (nh := 0) (nz := 0) (vh := vh) (x := x) (d := d) (wk := wk) (it := it) (q := q) (nw := nw) (ni := ni) (cq := cq) (pv := pv) (θ := θ) (S := S)
      (RR := (tl, LCg.lst ((List.range n).map fun j => Value.ref (x j))) :: (tls w n x d wk it nw ni θ ++ ([(el, listOf #[] 0), (hl, listOf vh.toArray 0), (z, listOf #[] 0), (xh, instObj 218 dh), (dh, heapD w.params t1 t2 t3 tn' lim (n : Int) z)] ++ R))) B F5 X T CH ?N eT2 d2 d3 d4 d5 d6 d7 d8 k0 k1 k2 k3 k4 k5 k6 k7 k8 k9
      (offRR cLt (by omega) (by first | k_mem | simp)) (offRR cC (by omega) (by first | k_mem | simp)) (offRR 427 (by omega) (by first | k_mem | simp)) (inB _ (by first | k_mem | simp)) (inB _ (by first | k_mem | simp)) (inB _ (by first | k_mem | simp)) (inB _ (by first | k_mem | simp)) (inB _ (by first | k_mem | simp)) (.head _)
      (fun p hp => inRR p (r7 p hp)) (fun j hj => ⟨inT _ (m1 j hj), inT _ (m2 j hj), inT _ (m3 j hj), inT _ (m4 j hj), inRR _ (r8 j hj)⟩) (inRR _ r9) (inRR _ r10) nd14 hzo hT.dne ?dro ?dB ?oB ?oR items hT.th g1 g3 g4 g5 g6 gl hS0 hpl hps hin hlp hpe hes hine hd hu fun h' tk' m' F' => ret _ _ _ F'
    case dro =>
      intro i j hi hj
      obtain ⟨a1, a2, a3⟩ := hT.dro i j hi hj
      exact ⟨a1, a2, a3, Ne.symm (hT.off i hi (q j) (inR _ (r8 j hj))).1⟩
    case dB =>
      intro j hj b hb
      have hqj := hR _ (r8 j hj)
      dsimp only at hqj
      obtain ⟨hqj1, hqj2⟩ := hqj
      have hqj1 := notin_ne hqj1
      have tq : @Ne Nat (q j) tl := otl _ (inR _ (r8 j hj))
      have hb2 : b = tl ∨ b ∈ ([(el, listOf #[] 0), (hl, listOf vh.toArray 0), (z, listOf #[] 0), (xh, instObj 218 dh), (dh, heapD w.params t1 t2 t3 tn lim 0 z), (cT, oT), (cO, oO), (cLt, oLt), (cH, oH), (cE, oE), (cP, oP), (cC, oC), (cM, oM), (427, tabObj #[])] ++ R).map (·.1) := by
        rcases List.mem_cons.mp hb with rfl | hb
        · exact .inr (inA _ (by first | k_mem | simp))
        · exact oldc b hb
      have hbq : @Ne Nat b (q j) := by
        rcases List.mem_cons.mp hb with e | hb
        · rw [e]; omega
        · replace hb := mem_ors hb
          rcases hb with rfl | rfl | rfl | rfl | rfl | rfl | rfl | rfl | rfl | rfl | rfl | rfl | rfl | rfl
          · (first | (refine Nat.ne_of_lt ?_; (repeat (first | with_reducible assumption | refine Nat.lt_trans (by with_reducible assumption) ?_)); done) | (refine Nat.ne_of_gt ?_; (repeat (first | with_reducible assumption | refine Nat.lt_trans (by with_reducible assumption) ?_)); done) | with_reducible assumption | exact Ne.symm (by with_reducible assumption) | exact Ne.symm (hqj1 _ (by k_mem)) | omega)
          · (first | (refine Nat.ne_of_lt ?_; (repeat (first | with_reducible assumption | refine Nat.lt_trans (by with_reducible assumption) ?_)); done) | (refine Nat.ne_of_gt ?_; (repeat (first | with_reducible assumption | refine Nat.lt_trans (by with_reducible assumption) ?_)); done) | with_reducible assumption | exact Ne.symm (by with_reducible assumption) | exact Ne.symm (hqj1 _ (by k_mem)) | omega)
          · (first | (refine Nat.ne_of_lt ?_; (repeat (first | with_reducible assumption | refine Nat.lt_trans (by with_reducible assumption) ?_)); done) | (refine Nat.ne_of_gt ?_; (repeat (first | with_reducible assumption | refine Nat.lt_trans (by with_reducible assumption) ?_)); done) | with_reducible assumption | exact Ne.symm (by with_reducible assumption) | exact Ne.symm (hqj1 _ (by k_mem)) | omega)
          · (first | (refine Nat.ne_of_lt ?_; (repeat (first | with_reducible assumption | refine Nat.lt_trans (by with_reducible assumption) ?_)); done) | (refine Nat.ne_of_gt ?_; (repeat (first | with_reducible assumption | refine Nat.lt_trans (by with_reducible assumption) ?_)); done) | with_reducible assumption | exact Ne.symm (by with_reducible assumption) | exact Ne.symm (hqj1 _ (by k_mem)) | omega)
          · (first | (refine Nat.ne_of_lt ?_; (repeat (first | with_reducible assumption | refine Nat.lt_trans (by with_reducible assumption) ?_)); done) | (refine Nat.ne_of_gt ?_; (repeat (first | with_reducible assumption | refine Nat.lt_trans (by with_reducible assumption) ?_)); done) | with_reducible assumption | exact Ne.symm (by with_reducible assumption) | exact Ne.symm (hqj1 _ (by k_mem)) | omega)
          · (first | (refine Nat.ne_of_lt ?_; (repeat (first | with_reducible assumption | refine Nat.lt_trans (by with_reducible assumption) ?_)); done) | (refine Nat.ne_of_gt ?_; (repeat (first | with_reducible assumption | refine Nat.lt_trans (by with_reducible assumption) ?_)); done) | with_reducible assumption | exact Ne.symm (by with_reducible assumption) | exact Ne.symm (hqj1 _ (by k_mem)) | omega)
          · (first | (refine Nat.ne_of_lt ?_; (repeat (first | with_reducible assumption | refine Nat.lt_trans (by with_reducible assumption) ?_)); done) | (refine Nat.ne_of_gt ?_; (repeat (first | with_reducible assumption | refine Nat.lt_trans (by with_reducible assumption) ?_)); done) | with_reducible assumption | exact Ne.symm (by with_reducible assumption) | exact Ne.symm (hqj1 _ (by k_mem)) | omega)
          · (first | (refine Nat.ne_of_lt ?_; (repeat (first | with_reducible assumption | refine Nat.lt_trans (by with_reducible assumption) ?_)); done) | (refine Nat.ne_of_gt ?_; (repeat (first | with_reducible assumption | refine Nat.lt_trans (by with_reducible assumption) ?_)); done) | with_reducible assumption | exact Ne.symm (by with_reducible assumption) | exact Ne.symm (hqj1 _ (by k_mem)) | omega)
          · (first | (refine Nat.ne_of_lt ?_; (repeat (first | with_reducible assumption | refine Nat.lt_trans (by with_reducible assumption) ?_)); done) | (refine Nat.ne_of_gt ?_; (repeat (first | with_reducible assumption | refine Nat.lt_trans (by with_reducible assumption) ?_)); done) | with_reducible assumption | exact Ne.symm (by with_reducible assumption) | exact Ne.symm (hqj1 _ (by k_mem)) | omega)
          · (first | (refine Nat.ne_of_lt ?_; (repeat (first | with_reducible assumption | refine Nat.lt_trans (by with_reducible assumption) ?_)); done) | (refine Nat.ne_of_gt ?_; (repeat (first | with_reducible assumption | refine Nat.lt_trans (by with_reducible assumption) ?_)); done) | with_reducible assumption | exact Ne.symm (by with_reducible assumption) | exact Ne.symm (hqj1 _ (by k_mem)) | omega)
          · (first | (refine Nat.ne_of_lt ?_; (repeat (first | with_reducible assumption | refine Nat.lt_trans (by with_reducible assumption) ?_)); done) | (refine Nat.ne_of_gt ?_; (repeat (first | with_reducible assumption | refine Nat.lt_trans (by with_reducible assumption) ?_)); done) | with_reducible assumption | exact Ne.symm (by with_reducible assumption) | exact Ne.symm (hqj1 _ (by k_mem)) | omega)
          · exact Ne.symm tq
          · exact fun e => (hq j hj).1 (e ▸ .head _)
          · exact fun e => (hq j hj).1 (by have e : o.pl = q j := e; rw [← e]; simp)
      rcases hb2 with rfl | hb2
      · exact ⟨Ne.symm (otl2 _ (m1 j hj)), Ne.symm (otl2 _ (m2 j hj)), Ne.symm (otl2 _ (m3 j hj)), Ne.symm (otl2 _ (m4 j hj)), hbq⟩
      · obtain ⟨a1, a2, a3, a4⟩ := hT.off j hj b hb2
        exact ⟨a1, a2, a3, a4, hbq⟩
    case oB =>
      intro b hb
      by_cases e4 : b = 427
      · subst e4
        have tM : @Ne Nat 427 tl := otl 427 (inA 427 (by first | k_mem | simp))
        refine ⟨fun hm => ?_, fun j hj => ?_⟩
        · replace hm := mem_ors hm
          rcases hm with e | e | e | e | e | e | e | e | e | e | e | e | e | e | e <;> (revert e; show ¬ @Eq Nat _ _; first | (refine Nat.ne_of_lt ?_; (repeat (first | with_reducible assumption | refine Nat.lt_trans (by with_reducible assumption) ?_)); done) | (refine Nat.ne_of_gt ?_; (repeat (first | with_reducible assumption | refine Nat.lt_trans (by with_reducible assumption) ?_)); done) | with_reducible assumption | exact Ne.symm (by with_reducible assumption) | omega)
        · obtain ⟨a1, a2, a3, a4⟩ := hT.off j hj 427 (inA 427 (by first | k_mem | simp))
          have := notin_ne (hR _ (r8 j hj)).1
          exact ⟨a1, a2, a3, a4, Ne.symm (this _ (by k_mem))⟩
      by_cases e : b = cM
      · subst e
        have tM : @Ne Nat cM tl := otl cM (inA cM (by first | k_mem | simp))
        refine ⟨fun hm => ?_, fun j hj => ?_⟩
        · replace hm := mem_ors hm
          rcases hm with e | e | e | e | e | e | e | e | e | e | e | e | e | e | e <;> (revert e; show ¬ @Eq Nat _ _; first | (refine Nat.ne_of_lt ?_; (repeat (first | with_reducible assumption | refine Nat.lt_trans (by with_reducible assumption) ?_)); done) | (refine Nat.ne_of_gt ?_; (repeat (first | with_reducible assumption | refine Nat.lt_trans (by with_reducible assumption) ?_)); done) | with_reducible assumption | exact Ne.symm (by with_reducible assumption) | omega)
        · obtain ⟨a1, a2, a3, a4⟩ := hT.off j hj cM (inA cM (by first | k_mem | simp))
          have := notin_ne (hR _ (r8 j hj)).1
          exact ⟨a1, a2, a3, a4, Ne.symm (this _ (by k_mem))⟩
      · have hb7 : b ∈ [o.hl, o.dl, o.fl, o.bll, o.gl, P, Pe] := by
          simp only [List.mem_cons, List.not_mem_nil, or_false] at hb ⊢
          rcases hb with h | h | h | h | h | h | h | h | h
          · exact .inl h
          · exact .inr (.inl h)
          · exact .inr (.inr (.inl h))
          · exact .inr (.inr (.inr (.inl h)))
          · exact .inr (.inr (.inr (.inr (.inl h))))
          · exact absurd h e
          · exact .inr (.inr (.inr (.inr (.inr (.inl h)))))
          · exact .inr (.inr (.inr (.inr (.inr (.inr h)))))
          · exact absurd h e4
        obtain ⟨⟨v, hv⟩, w1, w2, w3⟩ := own14 b hb7
        obtain ⟨v1, v2⟩ := hR _ hv
        dsimp only at v1 v2
        have v1 := notin_ne v1
        have tb : @Ne Nat b tl := otl _ (inR _ hv)
        refine ⟨fun hm => ?_, fun j hj => ?_⟩
        · replace hm := mem_ors hm
          rcases hm with e | e | e | e | e | e | e | e | e | e | e | e | e | e | e
          · revert e; show ¬ @Eq Nat _ _; first | (refine Nat.ne_of_lt ?_; (repeat (first | with_reducible assumption | refine Nat.lt_trans (by with_reducible assumption) ?_)); done) | (refine Nat.ne_of_gt ?_; (repeat (first | with_reducible assumption | refine Nat.lt_trans (by with_reducible assumption) ?_)); done) | with_reducible assumption | exact Ne.symm (by with_reducible assumption) | exact v1 _ (by k_mem) | omega
          · revert e; show ¬ @Eq Nat _ _; first | (refine Nat.ne_of_lt ?_; (repeat (first | with_reducible assumption | refine Nat.lt_trans (by with_reducible assumption) ?_)); done) | (refine Nat.ne_of_gt ?_; (repeat (first | with_reducible assumption | refine Nat.lt_trans (by with_reducible assumption) ?_)); done) | with_reducible assumption | exact Ne.symm (by with_reducible assumption) | exact v1 _ (by k_mem) | omega
          · revert e; show ¬ @Eq Nat _ _; first | (refine Nat.ne_of_lt ?_; (repeat (first | with_reducible assumption | refine Nat.lt_trans (by with_reducible assumption) ?_)); done) | (refine Nat.ne_of_gt ?_; (repeat (first | with_reducible assumption | refine Nat.lt_trans (by with_reducible assumption) ?_)); done) | with_reducible assumption | exact Ne.symm (by with_reducible assumption) | exact v1 _ (by k_mem) | omega
          · revert e; show ¬ @Eq Nat _ _; first | (refine Nat.ne_of_lt ?_; (repeat (first | with_reducible assumption | refine Nat.lt_trans (by with_reducible assumption) ?_)); done) | (refine Nat.ne_of_gt ?_; (repeat (first | with_reducible assumption | refine Nat.lt_trans (by with_reducible assumption) ?_)); done) | with_reducible assumption | exact Ne.symm (by with_reducible assumption) | exact v1 _ (by k_mem) | omega
          · revert e; show ¬ @Eq Nat _ _; first | (refine Nat.ne_of_lt ?_; (repeat (first | with_reducible assumption | refine Nat.lt_trans (by with_reducible assumption) ?_)); done) | (refine Nat.ne_of_gt ?_; (repeat (first | with_reducible assumption | refine Nat.lt_trans (by with_reducible assumption) ?_)); done) | with_reducible assumption | exact Ne.symm (by with_reducible assumption) | exact v1 _ (by k_mem) | omega
          · revert e; show ¬ @Eq Nat _ _; first | (refine Nat.ne_of_lt ?_; (repeat (first | with_reducible assumption | refine Nat.lt_trans (by with_reducible assumption) ?_)); done) | (refine Nat.ne_of_gt ?_; (repeat (first | with_reducible assumption | refine Nat.lt_trans (by with_reducible assumption) ?_)); done) | with_reducible assumption | exact Ne.symm (by with_reducible assumption) | exact v1 _ (by k_mem) | omega
          · revert e; show ¬ @Eq Nat _ _; first | (refine Nat.ne_of_lt ?_; (repeat (first | with_reducible assumption | refine Nat.lt_trans (by with_reducible assumption) ?_)); done) | (refine Nat.ne_of_gt ?_; (repeat (first | with_reducible assumption | refine Nat.lt_trans (by with_reducible assumption) ?_)); done) | with_reducible assumption | exact Ne.symm (by with_reducible assumption) | exact v1 _ (by k_mem) | omega
          · revert e; show ¬ @Eq Nat _ _; first | (refine Nat.ne_of_lt ?_; (repeat (first | with_reducible assumption | refine Nat.lt_trans (by with_reducible assumption) ?_)); done) | (refine Nat.ne_of_gt ?_; (repeat (first | with_reducible assumption | refine Nat.lt_trans (by with_reducible assumption) ?_)); done) | with_reducible assumption | exact Ne.symm (by with_reducible assumption) | exact v1 _ (by k_mem) | omega
          · revert e; show ¬ @Eq Nat _ _; first | (refine Nat.ne_of_lt ?_; (repeat (first | with_reducible assumption | refine Nat.lt_trans (by with_reducible assumption) ?_)); done) | (refine Nat.ne_of_gt ?_; (repeat (first | with_reducible assumption | refine Nat.lt_trans (by with_reducible assumption) ?_)); done) | with_reducible assumption | exact Ne.symm (by with_reducible assumption) | exact v1 _ (by k_mem) | omega
          · revert e; show ¬ @Eq Nat _ _; first | (refine Nat.ne_of_lt ?_; (repeat (first | with_reducible assumption | refine Nat.lt_trans (by with_reducible assumption) ?_)); done) | (refine Nat.ne_of_gt ?_; (repeat (first | with_reducible assumption | refine Nat.lt_trans (by with_reducible assumption) ?_)); done) | with_reducible assumption | exact Ne.symm (by with_reducible assumption) | exact v1 _ (by k_mem) | omega
          · revert e; show ¬ @Eq Nat _ _; first | (refine Nat.ne_of_lt ?_; (repeat (first | with_reducible assumption | refine Nat.lt_trans (by with_reducible assumption) ?_)); done) | (refine Nat.ne_of_gt ?_; (repeat (first | with_reducible assumption | refine Nat.lt_trans (by with_reducible assumption) ?_)); done) | with_reducible assumption | exact Ne.symm (by with_reducible assumption) | exact v1 _ (by k_mem) | omega
          · revert e; show ¬ @Eq Nat _ _; first | (refine Nat.ne_of_lt ?_; (repeat (first | with_reducible assumption | refine Nat.lt_trans (by with_reducible assumption) ?_)); done) | (refine Nat.ne_of_gt ?_; (repeat (first | with_reducible assumption | refine Nat.lt_trans (by with_reducible assumption) ?_)); done) | with_reducible assumption | exact Ne.symm (by with_reducible assumption) | exact v1 _ (by k_mem) | omega
          · exact tb e
          · exact w1 e
          · exact w2 e
        · obtain ⟨a1, a2, a3, a4⟩ := hT.off j hj b (inR _ hv)
          exact ⟨a1, a2, a3, a4, w3 j hj⟩
    case oR =>
      intro b hb hm
      replace hb := mem_ors hb
      rcases hb with rfl | rfl | rfl | rfl
      · have : ∃ v, (cM, v) ∈ o.ex vh2 vd vf [] c6 := by
          replace hm := mem_ors hm
          rcases hm with e | e | e | e | e | e | e <;> rw [e]
          · exact ⟨_, .head _⟩
          · exact ⟨_, .tail _ (.head _)⟩
          · exact ⟨_, .tail _ (.tail _ (.head _))⟩
          · exact ⟨_, .tail _ (.tail _ (.tail _ (.head _)))⟩
          · exact ⟨_, .tail _ (.tail _ (.tail _ (.tail _ (.head _))))⟩
          · exact ⟨_, .tail _ (.tail _ (.tail _ (.tail _ (.tail _ (.head _)))))⟩
          · exact ⟨_, .tail _ (.tail _ (.tail _ (.tail _ (.tail _ (.tail _ (.head _))))))⟩
        obtain ⟨v, hv⟩ := this
        exact (hR _ (r7 _ hv)).1 (by first | k_mem | simp)
      · exact hPo.1 hm
      · exact hPo.2 hm
      · have : ∃ v, ((427 : Addr), v) ∈ o.ex vh2 vd vf [] c6 := by
          replace hm := mem_ors hm
          rcases hm with e | e | e | e | e | e | e <;> rw [e]
          · exact ⟨_, .head _⟩
          · exact ⟨_, .tail _ (.head _)⟩
          · exact ⟨_, .tail _ (.tail _ (.head _))⟩
          · exact ⟨_, .tail _ (.tail _ (.tail _ (.head _)))⟩
          · exact ⟨_, .tail _ (.tail _ (.tail _ (.tail _ (.head _))))⟩
          · exact ⟨_, .tail _ (.tail _ (.tail _ (.tail _ (.tail _ (.head _)))))⟩
          · exact ⟨_, .tail _ (.tail _ (.tail _ (.tail _ (.tail _ (.tail _ (.head _))))))⟩
        obtain ⟨v, hv⟩ := this
        exact (hR _ (r7 _ hv)).1 (by first | k_mem | simp)
    case N =>
      intro p hp
      have hne : ∀ p ∈ [(cO, oO), (cLt, oLt), (cH, oH), (cE, oE), (cP, oP), (cC, oC), (cM, oM), (427, tabObj #[])], p.1 ≠ cT := fun p hp => by
        replace hp := mem_ors hp
        rcases hp with rfl | rfl | rfl | rfl | rfl | rfl | rfl | rfl <;> (show ¬ @Eq Nat _ _) <;> (first | (refine Nat.ne_of_lt ?_; (repeat (first | with_reducible assumption | refine Nat.lt_trans (by with_reducible assumption) ?_)); done) | (refine Nat.ne_of_gt ?_; (repeat (first | with_reducible assumption | refine Nat.lt_trans (by with_reducible assumption) ?_)); done) | with_reducible assumption | exact Ne.symm (by with_reducible assumption) | omega)
      rcases List.mem_append.mp hp with hp | hp
      · rcases List.mem_cons.mp hp with rfl | hp
        · exact NT _ (.head _)
        · refine keep p (mB p ?_) (hne p hp)
          rcases mem_ors hp with rfl | rfl | rfl | rfl | rfl | rfl | rfl | rfl <;> k_mem
      · refine keep p ?_ (offRR cT (Nat.le_refl _) (by first | k_mem | simp) p hp)
        rcases List.mem_cons.mp hp with rfl | hp
        · exact .head _
        rcases List.mem_append.mp hp with hp | hp
        · exact .tail _ (List.mem_append_left _ hp)
        rcases List.mem_append.mp hp with hp | hp
        · refine mB p ?_
          rcases mem_ors hp with rfl | rfl | rfl | rfl | rfl <;> k_mem
        · exact .tail _ (List.mem_append_right _ (List.mem_append_right _ hp))
theorem all (x : XX) : StX (x.1) (x.2.1) (x.2.2.1) (x.2.2.2.1) (x.2.2.2.2.1) (x.2.2.2.2.2.1) (x.2.2.2.2.2.2.1) (x.2.2.2.2.2.2.2.1) (x.2.2.2.2.2.2.2.2.1) (x.2.2.2.2.2.2.2.2.2.1) (x.2.2.2.2.2.2.2.2.2.2.1) (x.2.2.2.2.2.2.2.2.2.2.2.1) (x.2.2.2.2.2.2.2.2.2.2.2.2.1) (x.2.2.2.2.2.2.2.2.2.2.2.2.2.1) (x.2.2.2.2.2.2.2.2.2.2.2.2.2.2.1) (x.2.2.2.2.2.2.2.2.2.2.2.2.2.2.2.1) (x.2.2.2.2.2.2.2.2.2.2.2.2.2.2.2.2.1) (x.2.2.2.2.2.2.2.2.2.2.2.2.2.2.2.2.2.1) (x.2.2.2.2.2.2.2.2.2.2.2.2.2.2.2.2.2.2.1) (x.2.2.2.2.2.2.2.2.2.2.2.2.2.2.2.2.2.2.2.1) (x.2.2.2.2.2.2.2.2.2.2.2.2.2.2.2.2.2.2.2.2.1) (x.2.2.2.2.2.2.2.2.2.2.2.2.2.2.2.2.2.2.2.2.2.1) (x.2.2.2.2.2.2.2.2.2.2.2.2.2.2.2.2.2.2.2.2.2.2.1) (x.2.2.2.2.2.2.2.2.2.2.2.2.2.2.2.2.2.2.2.2.2.2.2.1) (x.2.2.2.2.2.2.2.2.2.2.2.2.2.2.2.2.2.2.2.2.2.2.2.2.1) (x.2.2.2.2.2.2.2.2.2.2.2.2.2.2.2.2.2.2.2.2.2.2.2.2.2.1) (x.2.2.2.2.2.2.2.2.2.2.2.2.2.2.2.2.2.2.2.2.2.2.2.2.2.2.1) (x.2.2.2.2.2.2.2.2.2.2.2.2.2.2.2.2.2.2.2.2.2.2.2.2.2.2.2.1) (x.2.2.2.2.2.2.2.2.2.2.2.2.2.2.2.2.2.2.2.2.2.2.2.2.2.2.2.2.1) (x.2.2.2.2.2.2.2.2.2.2.2.2.2.2.2.2.2.2.2.2.2.2.2.2.2.2.2.2.2.1) (x.2.2.2.2.2.2.2.2.2.2.2.2.2.2.2.2.2.2.2.2.2.2.2.2.2.2.2.2.2.2.1) (x.2.2.2.2.2.2.2.2.2.2.2.2.2.2.2.2.2.2.2.2.2.2.2.2.2.2.2.2.2.2.2.1) (x.2.2.2.2.2.2.2.2.2.2.2.2.2.2.2.2.2.2.2.2.2.2.2.2.2.2.2.2.2.2.2.2.1) (x.2.2.2.2.2.2.2.2.2.2.2.2.2.2.2.2.2.2.2.2.2.2.2.2.2.2.2.2.2.2.2.2.2.1) (x.2.2.2.2.2.2.2.2.2.2.2.2.2.2.2.2.2.2.2.2.2.2.2.2.2.2.2.2.2.2.2.2.2.2.1) (x.2.2.2.2.2.2.2.2.2.2.2.2.2.2.2.2.2.2.2.2.2.2.2.2.2.2.2.2.2.2.2.2.2.2.2.1) (x.2.2.2.2.2.2.2.2.2.2.2.2.2.2.2.2.2.2.2.2.2.2.2.2.2.2.2.2.2.2.2.2.2.2.2.2.1) (x.2.2.2.2.2.2.2.2.2.2.2.2.2.2.2.2.2.2.2.2.2.2.2.2.2.2.2.2.2.2.2.2.2.2.2.2.2.1) (x.2.2.2.2.2.2.2.2.2.2.2.2.2.2.2.2.2.2.2.2.2.2.2.2.2.2.2.2.2.2.2.2.2.2.2.2.2.2.1) (x.2.2.2.2.2.2.2.2.2.2.2.2.2.2.2.2.2.2.2.2.2.2.2.2.2.2.2.2.2.2.2.2.2.2.2.2.2.2.2.1) (x.2.2.2.2.2.2.2.2.2.2.2.2.2.2.2.2.2.2.2.2.2.2.2.2.2.2.2.2.2.2.2.2.2.2.2.2.2.2.2.2.1) (x.2.2.2.2.2.2.2.2.2.2.2.2.2.2.2.2.2.2.2.2.2.2.2.2.2.2.2.2.2.2.2.2.2.2.2.2.2.2.2.2.2.1) (x.2.2.2.2.2.2.2.2.2.2.2.2.2.2.2.2.2.2.2.2.2.2.2.2.2.2.2.2.2.2.2.2.2.2.2.2.2.2.2.2.2.2.1) (x.2.2.2.2.2.2.2.2.2.2.2.2.2.2.2.2.2.2.2.2.2.2.2.2.2.2.2.2.2.2.2.2.2.2.2.2.2.2.2.2.2.2.2.1) (x.2.2.2.2.2.2.2.2.2.2.2.2.2.2.2.2.2.2.2.2.2.2.2.2.2.2.2.2.2.2.2.2.2.2.2.2.2.2.2.2.2.2.2.2.1) (x.2.2.2.2.2.2.2.2.2.2.2.2.2.2.2.2.2.2.2.2.2.2.2.2.2.2.2.2.2.2.2.2.2.2.2.2.2.2.2.2.2.2.2.2.2.1) (x.2.2.2.2.2.2.2.2.2.2.2.2.2.2.2.2.2.2.2.2.2.2.2.2.2.2.2.2.2.2.2.2.2.2.2.2.2.2.2.2.2.2.2.2.2.2.1) (x.2.2.2.2.2.2.2.2.2.2.2.2.2.2.2.2.2.2.2.2.2.2.2.2.2.2.2.2.2.2.2.2.2.2.2.2.2.2.2.2.2.2.2.2.2.2.2.1) (x.2.2.2.2.2.2.2.2.2.2.2.2.2.2.2.2.2.2.2.2.2.2.2.2.2.2.2.2.2.2.2.2.2.2.2.2.2.2.2.2.2.2.2.2.2.2.2.2.1) (x.2.2.2.2.2.2.2.2.2.2.2.2.2.2.2.2.2.2.2.2.2.2.2.2.2.2.2.2.2.2.2.2.2.2.2.2.2.2.2.2.2.2.2.2.2.2.2.2.2.1) (x.2.2.2.2.2.2.2.2.2.2.2.2.2.2.2.2.2.2.2.2.2.2.2.2.2.2.2.2.2.2.2.2.2.2.2.2.2.2.2.2.2.2.2.2.2.2.2.2.2.2.1) (x.2.2.2.2.2.2.2.2.2.2.2.2.2.2.2.2.2.2.2.2.2.2.2.2.2.2.2.2.2.2.2.2.2.2.2.2.2.2.2.2.2.2.2.2.2.2.2.2.2.2.2.1) (x.2.2.2.2.2.2.2.2.2.2.2.2.2.2.2.2.2.2.2.2.2.2.2.2.2.2.2.2.2.2.2.2.2.2.2.2.2.2.2.2.2.2.2.2.2.2.2.2.2.2.2.2.1) (x.2.2.2.2.2.2.2.2.2.2.2.2.2.2.2.2.2.2.2.2.2.2.2.2.2.2.2.2.2.2.2.2.2.2.2.2.2.2.2.2.2.2.2.2.2.2.2.2.2.2.2.2.2.1) (x.2.2.2.2.2.2.2.2.2.2.2.2.2.2.2.2.2.2.2.2.2.2.2.2.2.2.2.2.2.2.2.2.2.2.2.2.2.2.2.2.2.2.2.2.2.2.2.2.2.2.2.2.2.2.1) (x.2.2.2.2.2.2.2.2.2.2.2.2.2.2.2.2.2.2.2.2.2.2.2.2.2.2.2.2.2.2.2.2.2.2.2.2.2.2.2.2.2.2.2.2.2.2.2.2.2.2.2.2.2.2.2.1) (x.2.2.2.2.2.2.2.2.2.2.2.2.2.2.2.2.2.2.2.2.2.2.2.2.2.2.2.2.2.2.2.2.2.2.2.2.2.2.2.2.2.2.2.2.2.2.2.2.2.2.2.2.2.2.2.2.1) (x.2.2.2.2.2.2.2.2.2.2.2.2.2.2.2.2.2.2.2.2.2.2.2.2.2.2.2.2.2.2.2.2.2.2.2.2.2.2.2.2.2.2.2.2.2.2.2.2.2.2.2.2.2.2.2.2.2.1) (x.2.2.2.2.2.2.2.2.2.2.2.2.2.2.2.2.2.2.2.2.2.2.2.2.2.2.2.2.2.2.2.2.2.2.2.2.2.2.2.2.2.2.2.2.2.2.2.2.2.2.2.2.2.2.2.2.2.2.1) (x.2.2.2.2.2.2.2.2.2.2.2.2.2.2.2.2.2.2.2.2.2.2.2.2.2.2.2.2.2.2.2.2.2.2.2.2.2.2.2.2.2.2.2.2.2.2.2.2.2.2.2.2.2.2.2.2.2.2.2.1) (x.2.2.2.2.2.2.2.2.2.2.2.2.2.2.2.2.2.2.2.2.2.2.2.2.2.2.2.2.2.2.2.2.2.2.2.2.2.2.2.2.2.2.2.2.2.2.2.2.2.2.2.2.2.2.2.2.2.2.2.2.1) (x.2.2.2.2.2.2.2.2.2.2.2.2.2.2.2.2.2.2.2.2.2.2.2.2.2.2.2.2.2.2.2.2.2.2.2.2.2.2.2.2.2.2.2.2.2.2.2.2.2.2.2.2.2.2.2.2.2.2.2.2.2.1) (x.2.2.2.2.2.2.2.2.2.2.2.2.2.2.2.2.2.2.2.2.2.2.2.2.2.2.2.2.2.2.2.2.2.2.2.2.2.2.2.2.2.2.2.2.2.2.2.2.2.2.2.2.2.2.2.2.2.2.2.2.2.2.1) (x.2.2.2.2.2.2.2.2.2.2.2.2.2.2.2.2.2.2.2.2.2.2.2.2.2.2.2.2.2.2.2.2.2.2.2.2.2.2.2.2.2.2.2.2.2.2.2.2.2.2.2.2.2.2.2.2.2.2.2.2.2.2.2.1) (x.2.2.2.2.2.2.2.2.2.2.2.2.2.2.2.2.2.2.2.2.2.2.2.2.2.2.2.2.2.2.2.2.2.2.2.2.2.2.2.2.2.2.2.2.2.2.2.2.2.2.2.2.2.2.2.2.2.2.2.2.2.2.2.2.1) (x.2.2.2.2.2.2.2.2.2.2.2.2.2.2.2.2.2.2.2.2.2.2.2.2.2.2.2.2.2.2.2.2.2.2.2.2.2.2.2.2.2.2.2.2.2.2.2.2.2.2.2.2.2.2.2.2.2.2.2.2.2.2.2.2.2.1) (x.2.2.2.2.2.2.2.2.2.2.2.2.2.2.2.2.2.2.2.2.2.2.2.2.2.2.2.2.2.2.2.2.2.2.2.2.2.2.2.2.2.2.2.2.2.2.2.2.2.2.2.2.2.2.2.2.2.2.2.2.2.2.2.2.2.2.1) (x.2.2.2.2.2.2.2.2.2.2.2.2.2.2.2.2.2.2.2.2.2.2.2.2.2.2.2.2.2.2.2.2.2.2.2.2.2.2.2.2.2.2.2.2.2.2.2.2.2.2.2.2.2.2.2.2.2.2.2.2.2.2.2.2.2.2.2) := eps_all (ne := neX) (P := fun x => StX (x.1) (x.2.1) (x.2.2.1) (x.2.2.2.1) (x.2.2.2.2.1) (x.2.2.2.2.2.1) (x.2.2.2.2.2.2.1) (x.2.2.2.2.2.2.2.1) (x.2.2.2.2.2.2.2.2.1) (x.2.2.2.2.2.2.2.2.2.1) (x.2.2.2.2.2.2.2.2.2.2.1) (x.2.2.2.2.2.2.2.2.2.2.2.1) (x.2.2.2.2.2.2.2.2.2.2.2.2.1) (x.2.2.2.2.2.2.2.2.2.2.2.2.2.1) (x.2.2.2.2.2.2.2.2.2.2.2.2.2.2.1) (x.2.2.2.2.2.2.2.2.2.2.2.2.2.2.2.1) (x.2.2.2.2.2.2.2.2.2.2.2.2.2.2.2.2.1) (x.2.2.2.2.2.2.2.2.2.2.2.2.2.2.2.2.2.1) (x.2.2.2.2.2.2.2.2.2.2.2.2.2.2.2.2.2.2.1) (x.2.2.2.2.2.2.2.2.2.2.2.2.2.2.2.2.2.2.2.1) (x.2.2.2.2.2.2.2.2.2.2.2.2.2.2.2.2.2.2.2.2.1) (x.2.2.2.2.2.2.2.2.2.2.2.2.2.2.2.2.2.2.2.2.2.1) (x.2.2.2.2.2.2.2.2.2.2.2.2.2.2.2.2.2.2.2.2.2.2.1) (x.2.2.2.2.2.2.2.2.2.2.2.2.2.2.2.2.2.2.2.2.2.2.2.1) (x.2.2.2.2.2.2.2.2.2.2.2.2.2.2.2.2.2.2.2.2.2.2.2.2.1) (x.2.2.2.2.2.2.2.2.2.2.2.2.2.2.2.2.2.2.2.2.2.2.2.2.2.1) (x.2.2.2.2.2.2.2.2.2.2.2.2.2.2.2.2.2.2.2.2.2.2.2.2.2.2.1) (x.2.2.2.2.2.2.2.2.2.2.2.2.2.2.2.2.2.2.2.2.2.2.2.2.2.2.2.1) (x.2.2.2.2.2.2.2.2.2.2.2.2.2.2.2.2.2.2.2.2.2.2.2.2.2.2.2.2.1) (x.2.2.2.2.2.2.2.2.2.2.2.2.2.2.2.2.2.2.2.2.2.2.2.2.2.2.2.2.2.1) (x.2.2.2.2.2.2.2.2.2.2.2.2.2.2.2.2.2.2.2.2.2.2.2.2.2.2.2.2.2.2.1) (x.2.2.2.2.2.2.2.2.2.2.2.2.2.2.2.2.2.2.2.2.2.2.2.2.2.2.2.2.2.2.2.1) (x.2.2.2.2.2.2.2.2.2.2.2.2.2.2.2.2.2.2.2.2.2.2.2.2.2.2.2.2.2.2.2.2.1) (x.2.2.2.2.2.2.2.2.2.2.2.2.2.2.2.2.2.2.2.2.2.2.2.2.2.2.2.2.2.2.2.2.2.1) (x.2.2.2.2.2.2.2.2.2.2.2.2.2.2.2.2.2.2.2.2.2.2.2.2.2.2.2.2.2.2.2.2.2.2.1) (x.2.2.2.2.2.2.2.2.2.2.2.2.2.2.2.2.2.2.2.2.2.2.2.2.2.2.2.2.2.2.2.2.2.2.2.1) (x.2.2.2.2.2.2.2.2.2.2.2.2.2.2.2.2.2.2.2.2.2.2.2.2.2.2.2.2.2.2.2.2.2.2.2.2.1) (x.2.2.2.2.2.2.2.2.2.2.2.2.2.2.2.2.2.2.2.2.2.2.2.2.2.2.2.2.2.2.2.2.2.2.2.2.2.1) (x.2.2.2.2.2.2.2.2.2.2.2.2.2.2.2.2.2.2.2.2.2.2.2.2.2.2.2.2.2.2.2.2.2.2.2.2.2.2.1) (x.2.2.2.2.2.2.2.2.2.2.2.2.2.2.2.2.2.2.2.2.2.2.2.2.2.2.2.2.2.2.2.2.2.2.2.2.2.2.2.1) (x.2.2.2.2.2.2.2.2.2.2.2.2.2.2.2.2.2.2.2.2.2.2.2.2.2.2.2.2.2.2.2.2.2.2.2.2.2.2.2.2.1) (x.2.2.2.2.2.2.2.2.2.2.2.2.2.2.2.2.2.2.2.2.2.2.2.2.2.2.2.2.2.2.2.2.2.2.2.2.2.2.2.2.2.1) (x.2.2.2.2.2.2.2.2.2.2.2.2.2.2.2.2.2.2.2.2.2.2.2.2.2.2.2.2.2.2.2.2.2.2.2.2.2.2.2.2.2.2.1) (x.2.2.2.2.2.2.2.2.2.2.2.2.2.2.2.2.2.2.2.2.2.2.2.2.2.2.2.2.2.2.2.2.2.2.2.2.2.2.2.2.2.2.2.1) (x.2.2.2.2.2.2.2.2.2.2.2.2.2.2.2.2.2.2.2.2.2.2.2.2.2.2.2.2.2.2.2.2.2.2.2.2.2.2.2.2.2.2.2.2.1) (x.2.2.2.2.2.2.2.2.2.2.2.2.2.2.2.2.2.2.2.2.2.2.2.2.2.2.2.2.2.2.2.2.2.2.2.2.2.2.2.2.2.2.2.2.2.1) (x.2.2.2.2.2.2.2.2.2.2.2.2.2.2.2.2.2.2.2.2.2.2.2.2.2.2.2.2.2.2.2.2.2.2.2.2.2.2.2.2.2.2.2.2.2.2.1) (x.2.2.2.2.2.2.2.2.2.2.2.2.2.2.2.2.2.2.2.2.2.2.2.2.2.2.2.2.2.2.2.2.2.2.2.2.2.2.2.2.2.2.2.2.2.2.2.1) (x.2.2.2.2.2.2.2.2.2.2.2.2.2.2.2.2.2.2.2.2.2.2.2.2.2.2.2.2.2.2.2.2.2.2.2.2.2.2.2.2.2.2.2.2.2.2.2.2.1) (x.2.2.2.2.2.2.2.2.2.2.2.2.2.2.2.2.2.2.2.2.2.2.2.2.2.2.2.2.2.2.2.2.2.2.2.2.2.2.2.2.2.2.2.2.2.2.2.2.2.1) (x.2.2.2.2.2.2.2.2.2.2.2.2.2.2.2.2.2.2.2.2.2.2.2.2.2.2.2.2.2.2.2.2.2.2.2.2.2.2.2.2.2.2.2.2.2.2.2.2.2.2.1) (x.2.2.2.2.2.2.2.2.2.2.2.2.2.2.2.2.2.2.2.2.2.2.2.2.2.2.2.2.2.2.2.2.2.2.2.2.2.2.2.2.2.2.2.2.2.2.2.2.2.2.2.1) (x.2.2.2.2.2.2.2.2.2.2.2.2.2.2.2.2.2.2.2.2.2.2.2.2.2.2.2.2.2.2.2.2.2.2.2.2.2.2.2.2.2.2.2.2.2.2.2.2.2.2.2.2.1) (x.2.2.2.2.2.2.2.2.2.2.2.2.2.2.2.2.2.2.2.2.2.2.2.2.2.2.2.2.2.2.2.2.2.2.2.2.2.2.2.2.2.2.2.2.2.2.2.2.2.2.2.2.2.1) (x.2.2.2.2.2.2.2.2.2.2.2.2.2.2.2.2.2.2.2.2.2.2.2.2.2.2.2.2.2.2.2.2.2.2.2.2.2.2.2.2.2.2.2.2.2.2.2.2.2.2.2.2.2.2.1) (x.2.2.2.2.2.2.2.2.2.2.2.2.2.2.2.2.2.2.2.2.2.2.2.2.2.2.2.2.2.2.2.2.2.2.2.2.2.2.2.2.2.2.2.2.2.2.2.2.2.2.2.2.2.2.2.1) (x.2.2.2.2.2.2.2.2.2.2.2.2.2.2.2.2.2.2.2.2.2.2.2.2.2.2.2.2.2.2.2.2.2.2.2.2.2.2.2.2.2.2.2.2.2.2.2.2.2.2.2.2.2.2.2.2.1) (x.2.2.2.2.2.2.2.2.2.2.2.2.2.2.2.2.2.2.2.2.2.2.2.2.2.2.2.2.2.2.2.2.2.2.2.2.2.2.2.2.2.2.2.2.2.2.2.2.2.2.2.2.2.2.2.2.2.1) (x.2.2.2.2.2.2.2.2.2.2.2.2.2.2.2.2.2.2.2.2.2.2.2.2.2.2.2.2.2.2.2.2.2.2.2.2.2.2.2.2.2.2.2.2.2.2.2.2.2.2.2.2.2.2.2.2.2.2.1) (x.2.2.2.2.2.2.2.2.2.2.2.2.2.2.2.2.2.2.2.2.2.2.2.2.2.2.2.2.2.2.2.2.2.2.2.2.2.2.2.2.2.2.2.2.2.2.2.2.2.2.2.2.2.2.2.2.2.2.2.1) (x.2.2.2.2.2.2.2.2.2.2.2.2.2.2.2.2.2.2.2.2.2.2.2.2.2.2.2.2.2.2.2.2.2.2.2.2.2.2.2.2.2.2.2.2.2.2.2.2.2.2.2.2.2.2.2.2.2.2.2.2.1) (x.2.2.2.2.2.2.2.2.2.2.2.2.2.2.2.2.2.2.2.2.2.2.2.2.2.2.2.2.2.2.2.2.2.2.2.2.2.2.2.2.2.2.2.2.2.2.2.2.2.2.2.2.2.2.2.2.2.2.2.2.2.1) (x.2.2.2.2.2.2.2.2.2.2.2.2.2.2.2.2.2.2.2.2.2.2.2.2.2.2.2.2.2.2.2.2.2.2.2.2.2.2.2.2.2.2.2.2.2.2.2.2.2.2.2.2.2.2.2.2.2.2.2.2.2.2.1) (x.2.2.2.2.2.2.2.2.2.2.2.2.2.2.2.2.2.2.2.2.2.2.2.2.2.2.2.2.2.2.2.2.2.2.2.2.2.2.2.2.2.2.2.2.2.2.2.2.2.2.2.2.2.2.2.2.2.2.2.2.2.2.2.1) (x.2.2.2.2.2.2.2.2.2.2.2.2.2.2.2.2.2.2.2.2.2.2.2.2.2.2.2.2.2.2.2.2.2.2.2.2.2.2.2.2.2.2.2.2.2.2.2.2.2.2.2.2.2.2.2.2.2.2.2.2.2.2.2.2.1) (x.2.2.2.2.2.2.2.2.2.2.2.2.2.2.2.2.2.2.2.2.2.2.2.2.2.2.2.2.2.2.2.2.2.2.2.2.2.2.2.2.2.2.2.2.2.2.2.2.2.2.2.2.2.2.2.2.2.2.2.2.2.2.2.2.2.1) (x.2.2.2.2.2.2.2.2.2.2.2.2.2.2.2.2.2.2.2.2.2.2.2.2.2.2.2.2.2.2.2.2.2.2.2.2.2.2.2.2.2.2.2.2.2.2.2.2.2.2.2.2.2.2.2.2.2.2.2.2.2.2.2.2.2.2.1) (x.2.2.2.2.2.2.2.2.2.2.2.2.2.2.2.2.2.2.2.2.2.2.2.2.2.2.2.2.2.2.2.2.2.2.2.2.2.2.2.2.2.2.2.2.2.2.2.2.2.2.2.2.2.2.2.2.2.2.2.2.2.2.2.2.2.2.2)) (by with_unfolding_all exact core) x
end C_law_things2
theorem law_things2 {w : World}
  {p : Program}
  {loose : List PySem.Str}
  {mean : ExcName → Option Value}
  {mg mb : PySem.Str → Option Value}
  {o : OwnA}
  {plan : List (List Int)}
  {bl : List Bool}
  {n : Nat}
  (OW : OwnOk w o plan bl n)
  (hvp : o.vp.length = n)
  {dp un : Nat}
  {gd : Option (List Code)}
  {a : Addr}
  {outer : List Env}
  {A₀ : Around}
  {base h₀ : Heap}
  {L : Addr}
  {m : PySem.Str → Option Value}
  {s : Shared}
  {Q : Flow → Shared → Prop}
  {E : Value → Shared → Prop}
  {cT cO cLt cH cE cP cC cM cJ : Addr}
  {oT oO oLt oH oE oP oC oM : Obj}
  {hl el xh dh z lim P Pe : Addr}
  {t1 t2 t3 tn tm : Tok}
  {cP' cE' c6 : Nat}
  {vh vh2 vd vf pls pes : List Value}
  {q : Nat → Addr}
  {cq : Nat → Nat}
  {pv : Nat → List Value}
  {S : S}
  {ps es : List Int}
  {R : List (Addr × Obj)}
  (B : Below A₀ base outer h₀)
  (F : Fr h₀ L s.heap m)
  (X : (hd.heap_1 w.params).In h₀)
  (T : Top p loose mean mg mb h₀)
  (CH : CodeHd h₀ 429 427)
  (N : News h₀ L s.heap ([(el, listOf #[] 0), (hl, listOf vh.toArray 0), (z, listOf #[] 0), (xh, instObj 218 dh), (dh, heapD w.params t1 t2 t3 tn lim 0 z), (cT, oT), (cO, oO), (cLt, oLt), (cH, oH), (cE, oE), (cP, oP), (cC, oC), (cM, oM), (427, tabObj #[])] ++ R))
  (d1 : oT.data = .cell none)
  (d2 : oO.data = .cell (some (.ref o.od)))
  (d3 : oLt.data = .cell none)
  (d4 : oH.data = .cell (some (.ref hl)))
  (d5 : oE.data = .cell (some (.ref el)))
  (d6 : oP.data = .cell (some (.ref xh)))
  (d7 : oC.data = .cell none)
  (d8 : oM.data = .cell (some (.int (n : Int) tm)))
  (k0 : @LT.lt Nat _ 427 L)
  (k1 : @LT.lt Nat _ L cJ)
  (k2 : @LT.lt Nat _ cJ cM)
  (k3 : @LT.lt Nat _ cM cC)
  (k4 : @LT.lt Nat _ cC cP)
  (k5 : @LT.lt Nat _ cP cE)
  (k6 : @LT.lt Nat _ cE cH)
  (k7 : @LT.lt Nat _ cH cLt)
  (k8 : @LT.lt Nat _ cLt cO)
  (k9 : @LT.lt Nat _ cO cT)
  (l1 : @LT.lt Nat _ cT dh)
  (l2 : @LT.lt Nat _ dh xh)
  (l3 : @LT.lt Nat _ xh z)
  (l4 : @LT.lt Nat _ z hl)
  (l5 : @LT.lt Nat _ hl el)
  (hR : ∀ p ∈ R, p.1 ∉ [cT, cO, cLt, cH, cE, cP, cC, cM, 427] ∧ @LT.lt Nat _ p.1 dh)
  (r7 : ∀ p ∈ o.ex vh2 vd vf [] c6, p ∈ R)
  (r8 : ∀ j, j < n → (q j, listOf (pv j).toArray (cq j)) ∈ R)
  (r9 : (P, listOf pls.toArray cP') ∈ R)
  (r10 : (Pe, listOf pes.toArray cE') ∈ R)
  (hq : ∀ j, j < n → q j ∉ o.adr ∧ @Ne Nat P (q j) ∧ @Ne Nat Pe (q j))
  (hPo : P ∉ o.adr ∧ Pe ∉ o.adr)
  (items : ∀ j, j < n → o.vp[j]? = some (.ref (q j)) ∧ IntsAre (pv j) (plan.getD j []))
  (g1 : BoolsAre vh S.held)
  (g3 : BoolsAre vh2 S.held)
  (g4 : BoolsAre vd S.done)
  (g5 : BoolsAre vf S.freed)
  (g6 : S.log = [])
  (gl : S.Len n)
  (hS0 : ∀ j, j < n → S.held.getD j false = true ∧ S.done.getD j false = false ∧ S.freed.getD j false = false)
  (hpl : m (PySem.Str.ofString "listed") = some (.ref P))
  (hps : IntsAre pls ps)
  (hin : ∀ q ∈ ps, 0 ≤ q ∧ q < (n : Int))
  (hlp : ps.length ≤ 10)
  (hpe : m (PySem.Str.ofString "early") = some (.ref Pe))
  (hes : IntsAre pes es)
  (hine : ∀ q ∈ es, 0 ≤ q ∧ q < (n : Int))
  (hd : dp + 60 < recursionLimit)
  (hu : un + 600 < cLine)
  (ret : ∀ h' tk' m', Fr h₀ L h' m' → GrownAt 427 h' → Q (.ret (.bool true)) { s with heap := h', toks := tk' }) : wpAny (model Pr w) (ktrTop dp un gd (PySem.Str.ofString "law") lawScope L a (.ref 429) (lawClA cT cO cLt cH cE cP cC cM cJ) outer) (execs (lawRest 8) (envX (PySem.Str.ofString "law") lawScope L a (.ref 429) (lawClA cT cO cLt cH cE cP cC cM cJ))) Q E s :=
  C_law_things2.all (w, p, loose, mean, mg, mb, o, plan, bl, n, dp, un, gd, a, outer, A₀, base, h₀, L, m, s, Q, E, cT, cO, cLt, cH, cE, cP, cC, cM, cJ, oT, oO, oLt, oH, oE, oP, oC, oM, hl, el, xh, dh, z, lim, P, Pe, t1, t2, t3, tn, tm, cP', cE', c6, vh, vh2, vd, vf, pls, pes, q, cq, pv, ps, es, R) S OW hvp B F X T CH N d1 d2 d3 d4 d5 d6 d7 d8 k0 k1 k2 k3 k4 k5 k6 k7 k8 k9 l1 l2 l3 l4 l5 hR r7 r8 r9 r10 hq hPo items g1 g3 g4 g5 g6 gl hS0 hpl hps hin hlp hpe hes hine hd hu ret
end Mine
end
theorem Mine.rs_o10 {w : PySem.World} {p : PySem.Program} {A : PySem.Around} {q : PySem.Pos} {e : PySem.Env} {Q : PySem.Flow → PySem.Shared → Prop} {E : PySem.Value → PySem.Shared → Prop} {s : PySem.Shared} (h : PySem.wpAny (PySem.model p w) A (PySem.exec (PySem.Stmt.Pass q) e) Q E s) : PySem.wpAny (PySem.model p w) A (PySem.exec (PySem.Stmt.Pass q) e) Q E s := by
  w_top off
  first | (walk1; exact h) | exact h
section
open PySem PySem.W PyProof.Rows PySem.Calls LSm Mine
local macro_rules | `(tactic| walk_at "binaryOp Mult ref int") => `(tactic| (k_here; (with_reducible show wpAny _ _ (binaryOp Operator.Mult (Value.ref _) (Value.int _ _)) _ _ _); k_dflt (refine' Mine.rep_bool ?F ?N ?m ?n ?_; (case F => k_asm); (case N => k_asm); (case m => k_mem); (case n => with_reducible assumption)); (intro D' h' vs' F' N' l1 hB'); (try k_lt l1)))
theorem Mine.rs_LawThings : True := by
  w_top off
  trivial
section
open PySem PySem.W PyProof.Rows PySem.Calls LSm
namespace Mine
namespace C_law_things
noncomputable abbrev XX : Type := (World) × (Program) × (List PySem.Str) × (ExcName → Option Value) × (PySem.Str → Option Value) × (PySem.Str → Option Value) × (OwnA) × (List (List Int)) × (List Bool) × (Nat) × (Nat) × (Nat) × (Option (List Code)) × (Addr) × (List Env) × (Around) × (Heap) × (Heap) × (Addr) × (PySem.Str → Option Value) × (Shared) × (Flow → Shared → Prop) × (Value → Shared → Prop) × (Addr) × (Addr) × (Addr) × (Addr) × (Addr) × (Addr) × (Addr) × (Addr) × (Addr) × (Obj) × (Obj) × (Obj) × (Obj) × (Obj) × (Obj) × (Obj) × (Obj) × (Addr) × (Addr) × (Tok) × (Nat) × (Nat) × (Nat) × (List Value) × (List Value) × (List Value) × (List Value) × (List Value) × (Nat → Addr) × (Nat → Nat) × (Nat → List Value) × (List Int) × (List Int) × (List (Addr × Obj))
noncomputable def StX (w : World) (p : Program) (loose : List PySem.Str) (mean : ExcName → Option Value) (mg : PySem.Str → Option Value) (mb : PySem.Str → Option Value) (o : OwnA) (plan : List (List Int)) (bl : List Bool) (n : Nat) (dp : Nat) (un : Nat) (gd : Option (List Code)) (a : Addr) (outer : List Env) (A₀ : Around) (base : Heap) (h₀ : Heap) (L : Addr) (m : PySem.Str → Option Value) (s : Shared) (Q : Flow → Shared → Prop) (E : Value → Shared → Prop) (cT : Addr) (cO : Addr) (cLt : Addr) (cH : Addr) (cE : Addr) (cP : Addr) (cC : Addr) (cM : Addr) (cJ : Addr) (oT : Obj) (oO : Obj) (oLt : Obj) (oH : Obj) (oE : Obj) (oP : Obj) (oC : Obj) (oM : Obj) (P : Addr) (Pe : Addr) (tm : Tok) (cP' : Nat) (cE' : Nat) (c6 : Nat) (vh2 : List Value) (vd : List Value) (vf : List Value) (pls : List Value) (pes : List Value) (q : Nat → Addr) (cq : Nat → Nat) (pv : Nat → List Value) (ps : List Int) (es : List Int) (R : List (Addr × Obj)) : Prop :=
  ∀ (S : S) (OW : OwnOk w o plan bl n) (hvp : o.vp.length = n) (B : Below A₀ base outer h₀) (F : Fr h₀ L s.heap m) (X : (hd.heap_1 w.params).In h₀) (T : Top p loose mean mg mb h₀) (CH : CodeHd h₀ 429 427) (N : News h₀ L s.heap ([(cT, oT), (cO, oO), (cLt, oLt), (cH, oH), (cE, oE), (cP, oP), (cC, oC), (cM, oM), (427, tabObj #[])] ++ R)) (d1 : oT.data = .cell none) (d2 : oO.data = .cell (some (.ref o.od))) (d3 : oLt.data = .cell none) (d4 : oH.data = .cell none) (d5 : oE.data = .cell none) (d6 : oP.data = .cell none) (d7 : oC.data = .cell none) (d8 : oM.data = .cell (some (.int (n : Int) tm))) (k0 : @LT.lt Nat _ 427 L) (k1 : @LT.lt Nat _ L cJ) (k2 : @LT.lt Nat _ cJ cM) (k3 : @LT.lt Nat _ cM cC) (k4 : @LT.lt Nat _ cC cP) (k5 : @LT.lt Nat _ cP cE) (k6 : @LT.lt Nat _ cE cH) (k7 : @LT.lt Nat _ cH cLt) (k8 : @LT.lt Nat _ cLt cO) (k9 : @LT.lt Nat _ cO cT) (hR : ∀ p ∈ R, p.1 ∉ [cT, cO, cLt, cH, cE, cP, cC, cM, 427]) (r7 : ∀ p ∈ o.ex vh2 vd vf [] c6, p ∈ R) (r8 : ∀ j, j < n → (q j, listOf (pv j).toArray (cq j)) ∈ R) (r9 : (P, listOf pls.toArray cP') ∈ R) (r10 : (Pe, listOf pes.toArray cE') ∈ R) (hq : ∀ j, j < n → q j ∉ o.adr ∧ @Ne Nat P (q j) ∧ @Ne Nat Pe (q j)) (hPo : P ∉ o.adr ∧ Pe ∉ o.adr) (items : ∀ j, j < n → o.vp[j]? = some (.ref (q j)) ∧ IntsAre (pv j) (plan.getD j [])) (g1 : S.held = List.replicate n true) (g3 : BoolsAre vh2 S.held) (g4 : BoolsAre vd S.done) (g5 : BoolsAre vf S.freed) (g6 : S.log = []) (gl : S.Len n) (hS0 : ∀ j, j < n → S.held.getD j false = true ∧ S.done.getD j false = false ∧ S.freed.getD j false = false) (hpl : m (PySem.Str.ofString "listed") = some (.ref P)) (hps : IntsAre pls ps) (hin : ∀ q ∈ ps, 0 ≤ q ∧ q < (n : Int)) (hlp : ps.length ≤ 10) (hpe : m (PySem.Str.ofString "early") = some (.ref Pe)) (hes : IntsAre pes es) (hine : ∀ q ∈ es, 0 ≤ q ∧ q < (n : Int)) (hd : dp + 60 < recursionLimit) (hu : un + 600 < cLine) (ret : ∀ h' tk' m', Fr h₀ L h' m' → GrownAt 427 h' → Q (.ret (.bool true)) { s with heap := h', toks := tk' }), wpAny (model Pr w) (ktrTop dp un gd (PySem.Str.ofString "law") lawScope L a (.ref 429) (lawClA cT cO cLt cH cE cP cC cM cJ) outer) (execs (lawRest 6) (envX (PySem.Str.ofString "law") lawScope L a (.ref 429) (lawClA cT cO cLt cH cE cP cC cM cJ))) Q E s
theorem neX : Nonempty XX := by
  refine ⟨?_⟩
  repeat' (first | exact default | exact aWorld 1 | constructor | intro _)
noncomputable def cX : XX := @Classical.epsilon XX neX fun x => ¬ StX (x.1) (x.2.1) (x.2.2.1) (x.2.2.2.1) (x.2.2.2.2.1) (x.2.2.2.2.2.1) (x.2.2.2.2.2.2.1) (x.2.2.2.2.2.2.2.1) (x.2.2.2.2.2.2.2.2.1) (x.2.2.2.2.2.2.2.2.2.1) (x.2.2.2.2.2.2.2.2.2.2.1) (x.2.2.2.2.2.2.2.2.2.2.2.1) (x.2.2.2.2.2.2.2.2.2.2.2.2.1) (x.2.2.2.2.2.2.2.2.2.2.2.2.2.1) (x.2.2.2.2.2.2.2.2.2.2.2.2.2.2.1) (x.2.2.2.2.2.2.2.2.2.2.2.2.2.2.2.1) (x.2.2.2.2.2.2.2.2.2.2.2.2.2.2.2.2.1) (x.2.2.2.2.2.2.2.2.2.2.2.2.2.2.2.2.2.1) (x.2.2.2.2.2.2.2.2.2.2.2.2.2.2.2.2.2.2.1) (x.2.2.2.2.2.2.2.2.2.2.2.2.2.2.2.2.2.2.2.1) (x.2.2.2.2.2.2.2.2.2.2.2.2.2.2.2.2.2.2.2.2.1) (x.2.2.2.2.2.2.2.2.2.2.2.2.2.2.2.2.2.2.2.2.2.1) (x.2.2.2.2.2.2.2.2.2.2.2.2.2.2.2.2.2.2.2.2.2.2.1) (x.2.2.2.2.2.2.2.2.2.2.2.2.2.2.2.2.2.2.2.2.2.2.2.1) (x.2.2.2.2.2.2.2.2.2.2.2.2.2.2.2.2.2.2.2.2.2.2.2.2.1) (x.2.2.2.2.2.2.2.2.2.2.2.2.2.2.2.2.2.2.2.2.2.2.2.2.2.1) (x.2.2.2.2.2.2.2.2.2.2.2.2.2.2.2.2.2.2.2.2.2.2.2.2.2.2.1) (x.2.2.2.2.2.2.2.2.2.2.2.2.2.2.2.2.2.2.2.2.2.2.2.2.2.2.2.1) (x.2.2.2.2.2.2.2.2.2.2.2.2.2.2.2.2.2.2.2.2.2.2.2.2.2.2.2.2.1) (x.2.2.2.2.2.2.2.2.2.2.2.2.2.2.2.2.2.2.2.2.2.2.2.2.2.2.2.2.2.1) (x.2.2.2.2.2.2.2.2.2.2.2.2.2.2.2.2.2.2.2.2.2.2.2.2.2.2.2.2.2.2.1) (x.2.2.2.2.2.2.2.2.2.2.2.2.2.2.2.2.2.2.2.2.2.2.2.2.2.2.2.2.2.2.2.1) (x.2.2.2.2.2.2.2.2.2.2.2.2.2.2.2.2.2.2.2.2.2.2.2.2.2.2.2.2.2.2.2.2.1) (x.2.2.2.2.2.2.2.2.2.2.2.2.2.2.2.2.2.2.2.2.2.2.2.2.2.2.2.2.2.2.2.2.2.1) (x.2.2.2.2.2.2.2.2.2.2.2.2.2.2.2.2.2.2.2.2.2.2.2.2.2.2.2.2.2.2.2.2.2.2.1) (x.2.2.2.2.2.2.2.2.2.2.2.2.2.2.2.2.2.2.2.2.2.2.2.2.2.2.2.2.2.2.2.2.2.2.2.1) (x.2.2.2.2.2.2.2.2.2.2.2.2.2.2.2.2.2.2.2.2.2.2.2.2.2.2.2.2.2.2.2.2.2.2.2.2.1) (x.2.2.2.2.2.2.2.2.2.2.2.2.2.2.2.2.2.2.2.2.2.2.2.2.2.2.2.2.2.2.2.2.2.2.2.2.2.1) (x.2.2.2.2.2.2.2.2.2.2.2.2.2.2.2.2.2.2.2.2.2.2.2.2.2.2.2.2.2.2.2.2.2.2.2.2.2.2.1) (x.2.2.2.2.2.2.2.2.2.2.2.2.2.2.2.2.2.2.2.2.2.2.2.2.2.2.2.2.2.2.2.2.2.2.2.2.2.2.2.1) (x.2.2.2.2.2.2.2.2.2.2.2.2.2.2.2.2.2.2.2.2.2.2.2.2.2.2.2.2.2.2.2.2.2.2.2.2.2.2.2.2.1) (x.2.2.2.2.2.2.2.2.2.2.2.2.2.2.2.2.2.2.2.2.2.2.2.2.2.2.2.2.2.2.2.2.2.2.2.2.2.2.2.2.2.1) (x.2.2.2.2.2.2.2.2.2.2.2.2.2.2.2.2.2.2.2.2.2.2.2.2.2.2.2.2.2.2.2.2.2.2.2.2.2.2.2.2.2.2.1) (x.2.2.2.2.2.2.2.2.2.2.2.2.2.2.2.2.2.2.2.2.2.2.2.2.2.2.2.2.2.2.2.2.2.2.2.2.2.2.2.2.2.2.2.1) (x.2.2.2.2.2.2.2.2.2.2.2.2.2.2.2.2.2.2.2.2.2.2.2.2.2.2.2.2.2.2.2.2.2.2.2.2.2.2.2.2.2.2.2.2.1) (x.2.2.2.2.2.2.2.2.2.2.2.2.2.2.2.2.2.2.2.2.2.2.2.2.2.2.2.2.2.2.2.2.2.2.2.2.2.2.2.2.2.2.2.2.2.1) (x.2.2.2.2.2.2.2.2.2.2.2.2.2.2.2.2.2.2.2.2.2.2.2.2.2.2.2.2.2.2.2.2.2.2.2.2.2.2.2.2.2.2.2.2.2.2.1) (x.2.2.2.2.2.2.2.2.2.2.2.2.2.2.2.2.2.2.2.2.2.2.2.2.2.2.2.2.2.2.2.2.2.2.2.2.2.2.2.2.2.2.2.2.2.2.2.1) (x.2.2.2.2.2.2.2.2.2.2.2.2.2.2.2.2.2.2.2.2.2.2.2.2.2.2.2.2.2.2.2.2.2.2.2.2.2.2.2.2.2.2.2.2.2.2.2.2.1) (x.2.2.2.2.2.2.2.2.2.2.2.2.2.2.2.2.2.2.2.2.2.2.2.2.2.2.2.2.2.2.2.2.2.2.2.2.2.2.2.2.2.2.2.2.2.2.2.2.2.1) (x.2.2.2.2.2.2.2.2.2.2.2.2.2.2.2.2.2.2.2.2.2.2.2.2.2.2.2.2.2.2.2.2.2.2.2.2.2.2.2.2.2.2.2.2.2.2.2.2.2.2.1) (x.2.2.2.2.2.2.2.2.2.2.2.2.2.2.2.2.2.2.2.2.2.2.2.2.2.2.2.2.2.2.2.2.2.2.2.2.2.2.2.2.2.2.2.2.2.2.2.2.2.2.2.1) (x.2.2.2.2.2.2.2.2.2.2.2.2.2.2.2.2.2.2.2.2.2.2.2.2.2.2.2.2.2.2.2.2.2.2.2.2.2.2.2.2.2.2.2.2.2.2.2.2.2.2.2.2.1) (x.2.2.2.2.2.2.2.2.2.2.2.2.2.2.2.2.2.2.2.2.2.2.2.2.2.2.2.2.2.2.2.2.2.2.2.2.2.2.2.2.2.2.2.2.2.2.2.2.2.2.2.2.2.1) (x.2.2.2.2.2.2.2.2.2.2.2.2.2.2.2.2.2.2.2.2.2.2.2.2.2.2.2.2.2.2.2.2.2.2.2.2.2.2.2.2.2.2.2.2.2.2.2.2.2.2.2.2.2.2.1) (x.2.2.2.2.2.2.2.2.2.2.2.2.2.2.2.2.2.2.2.2.2.2.2.2.2.2.2.2.2.2.2.2.2.2.2.2.2.2.2.2.2.2.2.2.2.2.2.2.2.2.2.2.2.2.2.1) (x.2.2.2.2.2.2.2.2.2.2.2.2.2.2.2.2.2.2.2.2.2.2.2.2.2.2.2.2.2.2.2.2.2.2.2.2.2.2.2.2.2.2.2.2.2.2.2.2.2.2.2.2.2.2.2.2)
@[irreducible] noncomputable def w := cX.1
@[irreducible] noncomputable def p := cX.2.1
@[irreducible] noncomputable def loose := cX.2.2.1
@[irreducible] noncomputable def mean := cX.2.2.2.1
@[irreducible] noncomputable def mg := cX.2.2.2.2.1
@[irreducible] noncomputable def mb := cX.2.2.2.2.2.1
@[irreducible] noncomputable def o := cX.2.2.2.2.2.2.1
@[irreducible] noncomputable def plan := cX.2.2.2.2.2.2.2.1
@[irreducible] noncomputable def bl := cX.2.2.2.2.2.2.2.2.1
@[irreducible] noncomputable def n := cX.2.2.2.2.2.2.2.2.2.1
@[irreducible] noncomputable def dp := cX.2.2.2.2.2.2.2.2.2.2.1
@[irreducible] noncomputable def un := cX.2.2.2.2.2.2.2.2.2.2.2.1
@[irreducible] noncomputable def gd := cX.2.2.2.2.2.2.2.2.2.2.2.2.1
@[irreducible] noncomputable def a := cX.2.2.2.2.2.2.2.2.2.2.2.2.2.1
@[irreducible] noncomputable def outer := cX.2.2.2.2.2.2.2.2.2.2.2.2.2.2.1
@[irreducible] noncomputable def A₀ := cX.2.2.2.2.2.2.2.2.2.2.2.2.2.2.2.1
@[irreducible] noncomputable def base := cX.2.2.2.2.2.2.2.2.2.2.2.2.2.2.2.2.1
@[irreducible] noncomputable def h₀ := cX.2.2.2.2.2.2.2.2.2.2.2.2.2.2.2.2.2.1
@[irreducible] noncomputable def L := cX.2.2.2.2.2.2.2.2.2.2.2.2.2.2.2.2.2.2.1
@[irreducible] noncomputable def m := cX.2.2.2.2.2.2.2.2.2.2.2.2.2.2.2.2.2.2.2.1
@[irreducible] noncomputable def s := cX.2.2.2.2.2.2.2.2.2.2.2.2.2.2.2.2.2.2.2.2.1
@[irreducible] noncomputable def Q := cX.2.2.2.2.2.2.2.2.2.2.2.2.2.2.2.2.2.2.2.2.2.1
@[irreducible] noncomputable def E := cX.2.2.2.2.2.2.2.2.2.2.2.2.2.2.2.2.2.2.2.2.2.2.1
@[irreducible] noncomputable def cT := cX.2.2.2.2.2.2.2.2.2.2.2.2.2.2.2.2.2.2.2.2.2.2.2.1
@[irreducible] noncomputable def cO := cX.2.2.2.2.2.2.2.2.2.2.2.2.2.2.2.2.2.2.2.2.2.2.2.2.1
@[irreducible] noncomputable def cLt := cX.2.2.2.2.2.2.2.2.2.2.2.2.2.2.2.2.2.2.2.2.2.2.2.2.2.1
@[irreducible] noncomputable def cH := cX.2.2.2.2.2.2.2.2.2.2.2.2.2.2.2.2.2.2.2.2.2.2.2.2.2.2.1
@[irreducible] noncomputable def cE := cX.2.2.2.2.2.2.2.2.2.2.2.2.2.2.2.2.2.2.2.2.2.2.2.2.2.2.2.1
@[irreducible] noncomputable def cP := cX.2.2.2.2.2.2.2.2.2.2.2.2.2.2.2.2.2.2.2.2.2.2.2.2.2.2.2.2.1
@[irreducible] noncomputable def cC := cX.2.2.2.2.2.2.2.2.2.2.2.2.2.2.2.2.2.2.2.2.2.2.2.2.2.2.2.2.2.1
@[irreducible] noncomputable def cM := cX.2.2.2.2.2.2.2.2.2.2.2.2.2.2.2.2.2.2.2.2.2.2.2.2.2.2.2.2.2.2.1
@[irreducible] noncomputable def cJ := cX.2.2.2.2.2.2.2.2.2.2.2.2.2.2.2.2.2.2.2.2.2.2.2.2.2.2.2.2.2.2.2.1
@[irreducible] noncomputable def oT := cX.2.2.2.2.2.2.2.2.2.2.2.2.2.2.2.2.2.2.2.2.2.2.2.2.2.2.2.2.2.2.2.2.1
@[irreducible] noncomputable def oO := cX.2.2.2.2.2.2.2.2.2.2.2.2.2.2.2.2.2.2.2.2.2.2.2.2.2.2.2.2.2.2.2.2.2.1
@[irreducible] noncomputable def oLt := cX.2.2.2.2.2.2.2.2.2.2.2.2.2.2.2.2.2.2.2.2.2.2.2.2.2.2.2.2.2.2.2.2.2.2.1
@[irreducible] noncomputable def oH := cX.2.2.2.2.2.2.2.2.2.2.2.2.2.2.2.2.2.2.2.2.2.2.2.2.2.2.2.2.2.2.2.2.2.2.2.1
@[irreducible] noncomputable def oE := cX.2.2.2.2.2.2.2.2.2.2.2.2.2.2.2.2.2.2.2.2.2.2.2.2.2.2.2.2.2.2.2.2.2.2.2.2.1
@[irreducible] noncomputable def oP := cX.2.2.2.2.2.2.2.2.2.2.2.2.2.2.2.2.2.2.2.2.2.2.2.2.2.2.2.2.2.2.2.2.2.2.2.2.2.1
@[irreducible] noncomputable def oC := cX.2.2.2.2.2.2.2.2.2.2.2.2.2.2.2.2.2.2.2.2.2.2.2.2.2.2.2.2.2.2.2.2.2.2.2.2.2.2.1
@[irreducible] noncomputable def oM := cX.2.2.2.2.2.2.2.2.2.2.2.2.2.2.2.2.2.2.2.2.2.2.2.2.2.2.2.2.2.2.2.2.2.2.2.2.2.2.2.1
@[irreducible] noncomputable def P := cX.2.2.2.2.2.2.2.2.2.2.2.2.2.2.2.2.2.2.2.2.2.2.2.2.2.2.2.2.2.2.2.2.2.2.2.2.2.2.2.2.1
@[irreducible] noncomputable def Pe := cX.2.2.2.2.2.2.2.2.2.2.2.2.2.2.2.2.2.2.2.2.2.2.2.2.2.2.2.2.2.2.2.2.2.2.2.2.2.2.2.2.2.1
@[irreducible] noncomputable def tm := cX.2.2.2.2.2.2.2.2.2.2.2.2.2.2.2.2.2.2.2.2.2.2.2.2.2.2.2.2.2.2.2.2.2.2.2.2.2.2.2.2.2.2.1
@[irreducible] noncomputable def cP' := cX.2.2.2.2.2.2.2.2.2.2.2.2.2.2.2.2.2.2.2.2.2.2.2.2.2.2.2.2.2.2.2.2.2.2.2.2.2.2.2.2.2.2.2.1
@[irreducible] noncomputable def cE' := cX.2.2.2.2.2.2.2.2.2.2.2.2.2.2.2.2.2.2.2.2.2.2.2.2.2.2.2.2.2.2.2.2.2.2.2.2.2.2.2.2.2.2.2.2.1
@[irreducible] noncomputable def c6 := cX.2.2.2.2.2.2.2.2.2.2.2.2.2.2.2.2.2.2.2.2.2.2.2.2.2.2.2.2.2.2.2.2.2.2.2.2.2.2.2.2.2.2.2.2.2.1
@[irreducible] noncomputable def vh2 := cX.2.2.2.2.2.2.2.2.2.2.2.2.2.2.2.2.2.2.2.2.2.2.2.2.2.2.2.2.2.2.2.2.2.2.2.2.2.2.2.2.2.2.2.2.2.2.1
@[irreducible] noncomputable def vd := cX.2.2.2.2.2.2.2.2.2.2.2.2.2.2.2.2.2.2.2.2.2.2.2.2.2.2.2.2.2.2.2.2.2.2.2.2.2.2.2.2.2.2.2.2.2.2.2.1
@[irreducible] noncomputable def vf := cX.2.2.2.2.2.2.2.2.2.2.2.2.2.2.2.2.2.2.2.2.2.2.2.2.2.2.2.2.2.2.2.2.2.2.2.2.2.2.2.2.2.2.2.2.2.2.2.2.1
@[irreducible] noncomputable def pls := cX.2.2.2.2.2.2.2.2.2.2.2.2.2.2.2.2.2.2.2.2.2.2.2.2.2.2.2.2.2.2.2.2.2.2.2.2.2.2.2.2.2.2.2.2.2.2.2.2.2.1
@[irreducible] noncomputable def pes := cX.2.2.2.2.2.2.2.2.2.2.2.2.2.2.2.2.2.2.2.2.2.2.2.2.2.2.2.2.2.2.2.2.2.2.2.2.2.2.2.2.2.2.2.2.2.2.2.2.2.2.1
@[irreducible] noncomputable def q := cX.2.2.2.2.2.2.2.2.2.2.2.2.2.2.2.2.2.2.2.2.2.2.2.2.2.2.2.2.2.2.2.2.2.2.2.2.2.2.2.2.2.2.2.2.2.2.2.2.2.2.2.1
@[irreducible] noncomputable def cq := cX.2.2.2.2.2.2.2.2.2.2.2.2.2.2.2.2.2.2.2.2.2.2.2.2.2.2.2.2.2.2.2.2.2.2.2.2.2.2.2.2.2.2.2.2.2.2.2.2.2.2.2.2.1
@[irreducible] noncomputable def pv := cX.2.2.2.2.2.2.2.2.2.2.2.2.2.2.2.2.2.2.2.2.2.2.2.2.2.2.2.2.2.2.2.2.2.2.2.2.2.2.2.2.2.2.2.2.2.2.2.2.2.2.2.2.2.1
@[irreducible] noncomputable def ps := cX.2.2.2.2.2.2.2.2.2.2.2.2.2.2.2.2.2.2.2.2.2.2.2.2.2.2.2.2.2.2.2.2.2.2.2.2.2.2.2.2.2.2.2.2.2.2.2.2.2.2.2.2.2.2.1
@[irreducible] noncomputable def es := cX.2.2.2.2.2.2.2.2.2.2.2.2.2.2.2.2.2.2.2.2.2.2.2.2.2.2.2.2.2.2.2.2.2.2.2.2.2.2.2.2.2.2.2.2.2.2.2.2.2.2.2.2.2.2.2.1
@[irreducible] noncomputable def R := cX.2.2.2.2.2.2.2.2.2.2.2.2.2.2.2.2.2.2.2.2.2.2.2.2.2.2.2.2.2.2.2.2.2.2.2.2.2.2.2.2.2.2.2.2.2.2.2.2.2.2.2.2.2.2.2.2
theorem core : StX w p loose mean mg mb o plan bl n dp un gd a outer A₀ base h₀ L m s Q E cT cO cLt cH cE cP cC cM cJ oT oO oLt oH oE oP oC oM P Pe tm cP' cE' c6 vh2 vd vf pls pes q cq pv ps es R := by
  unfold StX
  intro S OW hvp B F X T CH N d1 d2 d3 d4 d5 d6 d7 d8 k0 k1 k2 k3 k4 k5 k6 k7 k8 k9 hR r7 r8 r9 r10 hq hPo items g1 g3 g4 g5 g6 gl hS0 hpl hps hin hlp hpe hes hine hd hu ret
  unfold Pr
  refine wpAny_noRaise ?_
  rw [show lawRest 6 = _ :: _ :: lawRest 8 from rfl]
  rw [show lawScope = { kind := _, names := _, isGenerator := _, isCoroutine := _, more := _ } from rfl]
  revert X; k_fill; intro X
  have hn5 := OW.small
  have offR : ∀ c : Nat, c ∈ [cT, cO, cLt, cH, cE, cP, cC, cM, 427] → ∀ q ∈ R, q.1 ≠ c := fun c hc q hq => notin_ne (hR q hq) c hc
  have hRw := fun _ : Unit => hR
  simp only [List.cons_append, List.nil_append] at N
  have u1 := offR cT (by first | k_mem | simp)
  have u2 := offR cLt (by first | k_mem | simp)
  have u3 := offR cH (by first | k_mem | simp)
  have u4 := offR cE (by first | k_mem | simp)
  have u5 := offR cP (by first | k_mem | simp)
  have u6 := offR cC (by first | k_mem | simp)
  have u7 := offR 427 (by first | k_mem | simp)
  repeat' ((fail_if_success (with_reducible show wpAny _ _ (execs (lawRest 8) _) _ _ _)); (first | (k_unfold; (try dsimp only)) | walk1 | (dsimp only; walk1) | fail "no step"))
  rename News h₀ _ _ _ => N9
  rename Fr h₀ _ _ _ => F9
  obtain ⟨el, ez⟩ : ∃ v, v = (pa1 N9).1 := ⟨_, rfl⟩
  dsimp only [pa1] at ez
  subst ez
  obtain ⟨hl, ez⟩ : ∃ v, v = (pa2 N9).1 := ⟨_, rfl⟩
  dsimp only [pa2] at ez
  subst ez
  obtain ⟨z, ez⟩ : ∃ v, v = (pa4 N9).1 := ⟨_, rfl⟩
  dsimp only [pa4] at ez
  subst ez
  obtain ⟨xh, ez⟩ : ∃ v, v = (pa5 N9).1 := ⟨_, rfl⟩
  dsimp only [pa5] at ez
  subst ez
  obtain ⟨dh, ez⟩ : ∃ v, v = (pa6 N9).1 := ⟨_, rfl⟩
  dsimp only [pa6] at ez
  subst ez
  obtain ⟨t1, t2, t3, tn, lim, hdh⟩ : ∃ t1 t2 t3 tn lim, (pa6 N9).2 = heapD w.params t1 t2 t3 tn lim 0 z := ⟨_, _, _, _, _, rfl⟩
  dsimp only [pa6] at hdh
  rw [hdh] at N9
  rename Obj.data _ = Data.cell (some (Value.ref xh)) => eP
  rename Obj.data _ = Data.cell (some (Value.ref hl)) => eH
  rename Obj.data _ = Data.cell (some (Value.ref el)) => eE
  rename BoolsAre _ (List.replicate n true) => hB
  rename AllLt dh R => ltA
  have ltR := allLt_mem ltA
  have l1 : @LT.lt Nat _ cT dh := by assumption
  have l2 : @LT.lt Nat _ dh xh := by assumption
  have l3 : @LT.lt Nat _ xh z := by assumption
  have l4 : @LT.lt Nat _ z hl := by assumption
  have l5 : @LT.lt Nat _ hl el := by assumption
  refine law_things2 OW hvp (t1 := t1) (t2 := t2) (t3 := t3) (tn := tn) (lim := lim) (S := S) B F9 X T CH (news_sub N9 ?kN) d1 d2 d3 eH eE eP d7 d8 k0 k1 k2 k3 k4 k5 k6 k7 k8 k9 l1 l2 l3 l4 l5 (fun p hp => ⟨hR p hp, ltR p hp⟩) r7 r8 r9 r10 hq hPo items (g1 ▸ hB) g3 g4 g5 g6 gl hS0 hpl hps hin hlp hpe hes hine hd hu fun h' tk' m' F' => ret _ _ _ F'
  case kN =>
    intro p hp
    rcases List.mem_append.mp hp with hp | hp
    · replace hp := mem_ors hp
      rcases hp with rfl | rfl | rfl | rfl | rfl | rfl | rfl | rfl | rfl | rfl | rfl | rfl | rfl | rfl <;> k_mem
    · (iterate 18 (apply List.mem_cons_of_mem))
      exact hp
theorem all (x : XX) : StX (x.1) (x.2.1) (x.2.2.1) (x.2.2.2.1) (x.2.2.2.2.1) (x.2.2.2.2.2.1) (x.2.2.2.2.2.2.1) (x.2.2.2.2.2.2.2.1) (x.2.2.2.2.2.2.2.2.1) (x.2.2.2.2.2.2.2.2.2.1) (x.2.2.2.2.2.2.2.2.2.2.1) (x.2.2.2.2.2.2.2.2.2.2.2.1) (x.2.2.2.2.2.2.2.2.2.2.2.2.1) (x.2.2.2.2.2.2.2.2.2.2.2.2.2.1) (x.2.2.2.2.2.2.2.2.2.2.2.2.2.2.1) (x.2.2.2.2.2.2.2.2.2.2.2.2.2.2.2.1) (x.2.2.2.2.2.2.2.2.2.2.2.2.2.2.2.2.1) (x.2.2.2.2.2.2.2.2.2.2.2.2.2.2.2.2.2.1) (x.2.2.2.2.2.2.2.2.2.2.2.2.2.2.2.2.2.2.1) (x.2.2.2.2.2.2.2.2.2.2.2.2.2.2.2.2.2.2.2.1) (x.2.2.2.2.2.2.2.2.2.2.2.2.2.2.2.2.2.2.2.2.1) (x.2.2.2.2.2.2.2.2.2.2.2.2.2.2.2.2.2.2.2.2.2.1) (x.2.2.2.2.2.2.2.2.2.2.2.2.2.2.2.2.2.2.2.2.2.2.1) (x.2.2.2.2.2.2.2.2.2.2.2.2.2.2.2.2.2.2.2.2.2.2.2.1) (x.2.2.2.2.2.2.2.2.2.2.2.2.2.2.2.2.2.2.2.2.2.2.2.2.1) (x.2.2.2.2.2.2.2.2.2.2.2.2.2.2.2.2.2.2.2.2.2.2.2.2.2.1) (x.2.2.2.2.2.2.2.2.2.2.2.2.2.2.2.2.2.2.2.2.2.2.2.2.2.2.1) (x.2.2.2.2.2.2.2.2.2.2.2.2.2.2.2.2.2.2.2.2.2.2.2.2.2.2.2.1) (x.2.2.2.2.2.2.2.2.2.2.2.2.2.2.2.2.2.2.2.2.2.2.2.2.2.2.2.2.1) (x.2.2.2.2.2.2.2.2.2.2.2.2.2.2.2.2.2.2.2.2.2.2.2.2.2.2.2.2.2.1) (x.2.2.2.2.2.2.2.2.2.2.2.2.2.2.2.2.2.2.2.2.2.2.2.2.2.2.2.2.2.2.1) (x.2.2.2.2.2.2.2.2.2.2.2.2.2.2.2.2.2.2.2.2.2.2.2.2.2.2.2.2.2.2.2.1) (x.2.2.2.2.2.2.2.2.2.2.2.2.2.2.2.2.2.2.2.2.2.2.2.2.2.2.2.2.2.2.2.2.1) (x.2.2.2.2.2.2.2.2.2.2.2.2.2.2.2.2.2.2.2.2.2.2.2.2.2.2.2.2.2.2.2.2.2.1) (x.2.2.2.2.2.2.2.2.2.2.2.2.2.2.2.2.2.2.2.2.2.2.2.2.2.2.2.2.2.2.2.2.2.2.1) (x.2.2.2.2.2.2.2.2.2.2.2.2.2.2.2.2.2.2.2.2.2.2.2.2.2.2.2.2.2.2.2.2.2.2.2.1) (x.2.2.2.2.2.2.2.2.2.2.2.2.2.2.2.2.2.2.2.2.2.2.2.2.2.2.2.2.2.2.2.2.2.2.2.2.1) (x.2.2.2.2.2.2.2.2.2.2.2.2.2.2.2.2.2.2.2.2.2.2.2.2.2.2.2.2.2.2.2.2.2.2.2.2.2.1) (x.2.2.2.2.2.2.2.2.2.2.2.2.2.2.2.2.2.2.2.2.2.2.2.2.2.2.2.2.2.2.2.2.2.2.2.2.2.2.1) (x.2.2.2.2.2.2.2.2.2.2.2.2.2.2.2.2.2.2.2.2.2.2.2.2.2.2.2.2.2.2.2.2.2.2.2.2.2.2.2.1) (x.2.2.2.2.2.2.2.2.2.2.2.2.2.2.2.2.2.2.2.2.2.2.2.2.2.2.2.2.2.2.2.2.2.2.2.2.2.2.2.2.1) (x.2.2.2.2.2.2.2.2.2.2.2.2.2.2.2.2.2.2.2.2.2.2.2.2.2.2.2.2.2.2.2.2.2.2.2.2.2.2.2.2.2.1) (x.2.2.2.2.2.2.2.2.2.2.2.2.2.2.2.2.2.2.2.2.2.2.2.2.2.2.2.2.2.2.2.2.2.2.2.2.2.2.2.2.2.2.1) (x.2.2.2.2.2.2.2.2.2.2.2.2.2.2.2.2.2.2.2.2.2.2.2.2.2.2.2.2.2.2.2.2.2.2.2.2.2.2.2.2.2.2.2.1) (x.2.2.2.2.2.2.2.2.2.2.2.2.2.2.2.2.2.2.2.2.2.2.2.2.2.2.2.2.2.2.2.2.2.2.2.2.2.2.2.2.2.2.2.2.1) (x.2.2.2.2.2.2.2.2.2.2.2.2.2.2.2.2.2.2.2.2.2.2.2.2.2.2.2.2.2.2.2.2.2.2.2.2.2.2.2.2.2.2.2.2.2.1) (x.2.2.2.2.2.2.2.2.2.2.2.2.2.2.2.2.2.2.2.2.2.2.2.2.2.2.2.2.2.2.2.2.2.2.2.2.2.2.2.2.2.2.2.2.2.2.1) (x.2.2.2.2.2.2.2.2.2.2.2.2.2.2.2.2.2.2.2.2.2.2.2.2.2.2.2.2.2.2.2.2.2.2.2.2.2.2.2.2.2.2.2.2.2.2.2.1) (x.2.2.2.2.2.2.2.2.2.2.2.2.2.2.2.2.2.2.2.2.2.2.2.2.2.2.2.2.2.2.2.2.2.2.2.2.2.2.2.2.2.2.2.2.2.2.2.2.1) (x.2.2.2.2.2.2.2.2.2.2.2.2.2.2.2.2.2.2.2.2.2.2.2.2.2.2.2.2.2.2.2.2.2.2.2.2.2.2.2.2.2.2.2.2.2.2.2.2.2.1) (x.2.2.2.2.2.2.2.2.2.2.2.2.2.2.2.2.2.2.2.2.2.2.2.2.2.2.2.2.2.2.2.2.2.2.2.2.2.2.2.2.2.2.2.2.2.2.2.2.2.2.1) (x.2.2.2.2.2.2.2.2.2.2.2.2.2.2.2.2.2.2.2.2.2.2.2.2.2.2.2.2.2.2.2.2.2.2.2.2.2.2.2.2.2.2.2.2.2.2.2.2.2.2.2.1) (x.2.2.2.2.2.2.2.2.2.2.2.2.2.2.2.2.2.2.2.2.2.2.2.2.2.2.2.2.2.2.2.2.2.2.2.2.2.2.2.2.2.2.2.2.2.2.2.2.2.2.2.2.1) (x.2.2.2.2.2.2.2.2.2.2.2.2.2.2.2.2.2.2.2.2.2.2.2.2.2.2.2.2.2.2.2.2.2.2.2.2.2.2.2.2.2.2.2.2.2.2.2.2.2.2.2.2.2.1) (x.2.2.2.2.2.2.2.2.2.2.2.2.2.2.2.2.2.2.2.2.2.2.2.2.2.2.2.2.2.2.2.2.2.2.2.2.2.2.2.2.2.2.2.2.2.2.2.2.2.2.2.2.2.2.1) (x.2.2.2.2.2.2.2.2.2.2.2.2.2.2.2.2.2.2.2.2.2.2.2.2.2.2.2.2.2.2.2.2.2.2.2.2.2.2.2.2.2.2.2.2.2.2.2.2.2.2.2.2.2.2.2.1) (x.2.2.2.2.2.2.2.2.2.2.2.2.2.2.2.2.2.2.2.2.2.2.2.2.2.2.2.2.2.2.2.2.2.2.2.2.2.2.2.2.2.2.2.2.2.2.2.2.2.2.2.2.2.2.2.2) := eps_all (ne := neX) (P := fun x => StX (x.1) (x.2.1) (x.2.2.1) (x.2.2.2.1) (x.2.2.2.2.1) (x.2.2.2.2.2.1) (x.2.2.2.2.2.2.1) (x.2.2.2.2.2.2.2.1) (x.2.2.2.2.2.2.2.2.1) (x.2.2.2.2.2.2.2.2.2.1) (x.2.2.2.2.2.2.2.2.2.2.1) (x.2.2.2.2.2.2.2.2.2.2.2.1) (x.2.2.2.2.2.2.2.2.2.2.2.2.1) (x.2.2.2.2.2.2.2.2.2.2.2.2.2.1) (x.2.2.2.2.2.2.2.2.2.2.2.2.2.2.1) (x.2.2.2.2.2.2.2.2.2.2.2.2.2.2.2.1) (x.2.2.2.2.2.2.2.2.2.2.2.2.2.2.2.2.1) (x.2.2.2.2.2.2.2.2.2.2.2.2.2.2.2.2.2.1) (x.2.2.2.2.2.2.2.2.2.2.2.2.2.2.2.2.2.2.1) (x.2.2.2.2.2.2.2.2.2.2.2.2.2.2.2.2.2.2.2.1) (x.2.2.2.2.2.2.2.2.2.2.2.2.2.2.2.2.2.2.2.2.1) (x.2.2.2.2.2.2.2.2.2.2.2.2.2.2.2.2.2.2.2.2.2.1) (x.2.2.2.2.2.2.2.2.2.2.2.2.2.2.2.2.2.2.2.2.2.2.1) (x.2.2.2.2.2.2.2.2.2.2.2.2.2.2.2.2.2.2.2.2.2.2.2.1) (x.2.2.2.2.2.2.2.2.2.2.2.2.2.2.2.2.2.2.2.2.2.2.2.2.1) (x.2.2.2.2.2.2.2.2.2.2.2.2.2.2.2.2.2.2.2.2.2.2.2.2.2.1) (x.2.2.2.2.2.2.2.2.2.2.2.2.2.2.2.2.2.2.2.2.2.2.2.2.2.2.1) (x.2.2.2.2.2.2.2.2.2.2.2.2.2.2.2.2.2.2.2.2.2.2.2.2.2.2.2.1) (x.2.2.2.2.2.2.2.2.2.2.2.2.2.2.2.2.2.2.2.2.2.2.2.2.2.2.2.2.1) (x.2.2.2.2.2.2.2.2.2.2.2.2.2.2.2.2.2.2.2.2.2.2.2.2.2.2.2.2.2.1) (x.2.2.2.2.2.2.2.2.2.2.2.2.2.2.2.2.2.2.2.2.2.2.2.2.2.2.2.2.2.2.1) (x.2.2.2.2.2.2.2.2.2.2.2.2.2.2.2.2.2.2.2.2.2.2.2.2.2.2.2.2.2.2.2.1) (x.2.2.2.2.2.2.2.2.2.2.2.2.2.2.2.2.2.2.2.2.2.2.2.2.2.2.2.2.2.2.2.2.1) (x.2.2.2.2.2.2.2.2.2.2.2.2.2.2.2.2.2.2.2.2.2.2.2.2.2.2.2.2.2.2.2.2.2.1) (x.2.2.2.2.2.2.2.2.2.2.2.2.2.2.2.2.2.2.2.2.2.2.2.2.2.2.2.2.2.2.2.2.2.2.1) (x.2.2.2.2.2.2.2.2.2.2.2.2.2.2.2.2.2.2.2.2.2.2.2.2.2.2.2.2.2.2.2.2.2.2.2.1) (x.2.2.2.2.2.2.2.2.2.2.2.2.2.2.2.2.2.2.2.2.2.2.2.2.2.2.2.2.2.2.2.2.2.2.2.2.1) (x.2.2.2.2.2.2.2.2.2.2.2.2.2.2.2.2.2.2.2.2.2.2.2.2.2.2.2.2.2.2.2.2.2.2.2.2.2.1) (x.2.2.2.2.2.2.2.2.2.2.2.2.2.2.2.2.2.2.2.2.2.2.2.2.2.2.2.2.2.2.2.2.2.2.2.2.2.2.1) (x.2.2.2.2.2.2.2.2.2.2.2.2.2.2.2.2.2.2.2.2.2.2.2.2.2.2.2.2.2.2.2.2.2.2.2.2.2.2.2.1) (x.2.2.2.2.2.2.2.2.2.2.2.2.2.2.2.2.2.2.2.2.2.2.2.2.2.2.2.2.2.2.2.2.2.2.2.2.2.2.2.2.1) (x.2.2.2.2.2.2.2.2.2.2.2.2.2.2.2.2.2.2.2.2.2.2.2.2.2.2.2.2.2.2.2.2.2.2.2.2.2.2.2.2.2.1) (x.2.2.2.2.2.2.2.2.2.2.2.2.2.2.2.2.2.2.2.2.2.2.2.2.2.2.2.2.2.2.2.2.2.2.2.2.2.2.2.2.2.2.1) (x.2.2.2.2.2.2.2.2.2.2.2.2.2.2.2.2.2.2.2.2.2.2.2.2.2.2.2.2.2.2.2.2.2.2.2.2.2.2.2.2.2.2.2.1) (x.2.2.2.2.2.2.2.2.2.2.2.2.2.2.2.2.2.2.2.2.2.2.2.2.2.2.2.2.2.2.2.2.2.2.2.2.2.2.2.2.2.2.2.2.1) (x.2.2.2.2.2.2.2.2.2.2.2.2.2.2.2.2.2.2.2.2.2.2.2.2.2.2.2.2.2.2.2.2.2.2.2.2.2.2.2.2.2.2.2.2.2.1) (x.2.2.2.2.2.2.2.2.2.2.2.2.2.2.2.2.2.2.2.2.2.2.2.2.2.2.2.2.2.2.2.2.2.2.2.2.2.2.2.2.2.2.2.2.2.2.1) (x.2.2.2.2.2.2.2.2.2.2.2.2.2.2.2.2.2.2.2.2.2.2.2.2.2.2.2.2.2.2.2.2.2.2.2.2.2.2.2.2.2.2.2.2.2.2.2.1) (x.2.2.2.2.2.2.2.2.2.2.2.2.2.2.2.2.2.2.2.2.2.2.2.2.2.2.2.2.2.2.2.2.2.2.2.2.2.2.2.2.2.2.2.2.2.2.2.2.1) (x.2.2.2.2.2.2.2.2.2.2.2.2.2.2.2.2.2.2.2.2.2.2.2.2.2.2.2.2.2.2.2.2.2.2.2.2.2.2.2.2.2.2.2.2.2.2.2.2.2.1) (x.2.2.2.2.2.2.2.2.2.2.2.2.2.2.2.2.2.2.2.2.2.2.2.2.2.2.2.2.2.2.2.2.2.2.2.2.2.2.2.2.2.2.2.2.2.2.2.2.2.2.1) (x.2.2.2.2.2.2.2.2.2.2.2.2.2.2.2.2.2.2.2.2.2.2.2.2.2.2.2.2.2.2.2.2.2.2.2.2.2.2.2.2.2.2.2.2.2.2.2.2.2.2.2.1) (x.2.2.2.2.2.2.2.2.2.2.2.2.2.2.2.2.2.2.2.2.2.2.2.2.2.2.2.2.2.2.2.2.2.2.2.2.2.2.2.2.2.2.2.2.2.2.2.2.2.2.2.2.1) (x.2.2.2.2.2.2.2.2.2.2.2.2.2.2.2.2.2.2.2.2.2.2.2.2.2.2.2.2.2.2.2.2.2.2.2.2.2.2.2.2.2.2.2.2.2.2.2.2.2.2.2.2.2.1) (x.2.2.2.2.2.2.2.2.2.2.2.2.2.2.2.2.2.2.2.2.2.2.2.2.2.2.2.2.2.2.2.2.2.2.2.2.2.2.2.2.2.2.2.2.2.2.2.2.2.2.2.2.2.2.1) (x.2.2.2.2.2.2.2.2.2.2.2.2.2.2.2.2.2.2.2.2.2.2.2.2.2.2.2.2.2.2.2.2.2.2.2.2.2.2.2.2.2.2.2.2.2.2.2.2.2.2.2.2.2.2.2.1) (x.2.2.2.2.2.2.2.2.2.2.2.2.2.2.2.2.2.2.2.2.2.2.2.2.2.2.2.2.2.2.2.2.2.2.2.2.2.2.2.2.2.2.2.2.2.2.2.2.2.2.2.2.2.2.2.2)) (by with_unfolding_all exact core) x
end C_law_things
theorem law_things {w : World}
  {p : Program}
  {loose : List PySem.Str}
  {mean : ExcName → Option Value}
  {mg mb : PySem.Str → Option Value}
  {o : OwnA}
  {plan : List (List Int)}
  {bl : List Bool}
  {n : Nat}
  (OW : OwnOk w o plan bl n)
  (hvp : o.vp.length = n)
  {dp un : Nat}
  {gd : Option (List Code)}
  {a : Addr}
  {outer : List Env}
  {A₀ : Around}
  {base h₀ : Heap}
  {L : Addr}
  {m : PySem.Str → Option Value}
  {s : Shared}
  {Q : Flow → Shared → Prop}
  {E : Value → Shared → Prop}
  {cT cO cLt cH cE cP cC cM cJ : Addr}
  {oT oO oLt oH oE oP oC oM : Obj}
  {P Pe : Addr}
  {tm : Tok}
  {cP' cE' c6 : Nat}
  {vh2 vd vf pls pes : List Value}
  {q : Nat → Addr}
  {cq : Nat → Nat}
  {pv : Nat → List Value}
  {S : S}
  {ps es : List Int}
  {R : List (Addr × Obj)}
  (B : Below A₀ base outer h₀)
  (F : Fr h₀ L s.heap m)
  (X : (hd.heap_1 w.params).In h₀)
  (T : Top p loose mean mg mb h₀)
  (CH : CodeHd h₀ 429 427)
  (N : News h₀ L s.heap ([(cT, oT), (cO, oO), (cLt, oLt), (cH, oH), (cE, oE), (cP, oP), (cC, oC), (cM, oM), (427, tabObj #[])] ++ R))
  (d1 : oT.data = .cell none)
  (d2 : oO.data = .cell (some (.ref o.od)))
  (d3 : oLt.data = .cell none)
  (d4 : oH.data = .cell none)
  (d5 : oE.data = .cell none)
  (d6 : oP.data = .cell none)
  (d7 : oC.data = .cell none)
  (d8 : oM.data = .cell (some (.int (n : Int) tm)))
  (k0 : @LT.lt Nat _ 427 L)
  (k1 : @LT.lt Nat _ L cJ)
  (k2 : @LT.lt Nat _ cJ cM)
  (k3 : @LT.lt Nat _ cM cC)
  (k4 : @LT.lt Nat _ cC cP)
  (k5 : @LT.lt Nat _ cP cE)
  (k6 : @LT.lt Nat _ cE cH)
  (k7 : @LT.lt Nat _ cH cLt)
  (k8 : @LT.lt Nat _ cLt cO)
  (k9 : @LT.lt Nat _ cO cT)
  (hR : ∀ p ∈ R, p.1 ∉ [cT, cO, cLt, cH, cE, cP, cC, cM, 427])
  (r7 : ∀ p ∈ o.ex vh2 vd vf [] c6, p ∈ R)
  (r8 : ∀ j, j < n → (q j, listOf (pv j).toArray (cq j)) ∈ R)
  (r9 : (P, listOf pls.toArray cP') ∈ R)
  (r10 : (Pe, listOf pes.toArray cE') ∈ R)
  (hq : ∀ j, j < n → q j ∉ o.adr ∧ @Ne Nat P (q j) ∧ @Ne Nat Pe (q j))
  (hPo : P ∉ o.adr ∧ Pe ∉ o.adr)
  (items : ∀ j, j < n → o.vp[j]? = some (.ref (q j)) ∧ IntsAre (pv j) (plan.getD j []))
  (g1 : S.held = List.replicate n true)
  (g3 : BoolsAre vh2 S.held)
  (g4 : BoolsAre vd S.done)
  (g5 : BoolsAre vf S.freed)
  (g6 : S.log = [])
  (gl : S.Len n)
  (hS0 : ∀ j, j < n → S.held.getD j false = true ∧ S.done.getD j false = false ∧ S.freed.getD j false = false)
  (hpl : m (PySem.Str.ofString "listed") = some (.ref P))
  (hps : IntsAre pls ps)
  (hin : ∀ q ∈ ps, 0 ≤ q ∧ q < (n : Int))
  (hlp : ps.length ≤ 10)
  (hpe : m (PySem.Str.ofString "early") = some (.ref Pe))
  (hes : IntsAre pes es)
  (hine : ∀ q ∈ es, 0 ≤ q ∧ q < (n : Int))
  (hd : dp + 60 < recursionLimit)
  (hu : un + 600 < cLine)
  (ret : ∀ h' tk' m', Fr h₀ L h' m' → GrownAt 427 h' → Q (.ret (.bool true)) { s with heap := h', toks := tk' }) : wpAny (model Pr w) (ktrTop dp un gd (PySem.Str.ofString "law") lawScope L a (.ref 429) (lawClA cT cO cLt cH cE cP cC cM cJ) outer) (execs (lawRest 6) (envX (PySem.Str.ofString "law") lawScope L a (.ref 429) (lawClA cT cO cLt cH cE cP cC cM cJ))) Q E s :=
  C_law_things.all (w, p, loose, mean, mg, mb, o, plan, bl, n, dp, un, gd, a, outer, A₀, base, h₀, L, m, s, Q, E, cT, cO, cLt, cH, cE, cP, cC, cM, cJ, oT, oO, oLt, oH, oE, oP, oC, oM, P, Pe, tm, cP', cE', c6, vh2, vd, vf, pls, pes, q, cq, pv, ps, es, R) S OW hvp B F X T CH N d1 d2 d3 d4 d5 d6 d7 d8 k0 k1 k2 k3 k4 k5 k6 k7 k8 k9 hR r7 r8 r9 r10 hq hPo items g1 g3 g4 g5 g6 gl hS0 hpl hps hin hlp hpe hes hine hd hu ret
end Mine
end
theorem Mine.rs_LawListed : True := by
  w_top off
  trivial
section
open PySem PySem.W PyProof.Rows PySem.Calls LSm
namespace Mine
theorem pourV_bd {ns : List Int} {c many : Int} (hm : 0 < many) : 0 ≤ pourV ns c many ∧ pourV ns c many < many := by
  unfold pourV
  exact ⟨Int.emod_nonneg _ (by omega), Int.emod_lt_of_pos _ hm⟩
/-- a pour, the jug ahead of all else -/
theorem pour_in {w : World} {p : Program} {loose : List PySem.Str} {mean : ExcName → Option Value} {mg mb : PySem.Str → Option Value}
  {dp un : Nat} {gd : Option (List Code)} {cn : PySem.Str} {cs : Scope} {a : Addr} {ccd : Value} {cl : List (PySem.Str × Addr)} {outer : List Env} {A₀ : Around} {base h₀ : Heap} {L : Addr} {m : PySem.Str → Option Value} {W : List (Addr × Obj)} {s : Shared}
  {Q E : Value → Shared → Prop} {jl Dj : Addr} {ws : List Value} {ns : List Int} {c many : Int} {tk tkc : Tok} {n1 n2 : Nat}
  (B : Below A₀ base outer h₀) (F : Fr h₀ L s.heap m) (X : (hd.heap_1 w.params).In h₀) (N : News h₀ L s.heap W) (mj : (jl, listOf #[.ref Dj, .int c tkc] n1) ∈ W) (mD : (Dj, listOf ws.toArray n2) ∈ W)
  (T : Top p loose mean mg mb h₀) (hk : cs.kind = .function)
  (hD : @LT.lt Nat _ Dj jl) (hI : IntsAre ws ns) (hlen : ns.length ≤ 40) (hc : 0 ≤ c) (hc2 : c < 1000) (hm : 0 < many) (hm2 : many < 1000)
  (hd : dp + 1 < recursionLimit) (hu : un + 8 < cLine)
  (ret : ∀ h' tk' t v t2, Fr h₀ L h' m → (∀ q ∈ W, q.1 ≠ jl → h'.get? q.1 = some q.2 ∧ q.1 ≠ L ∧ h₀.get? q.1 = none) → News h₀ L h' [(jl, listOf #[.ref Dj, .int (c + 1) t] n1)] → 0 ≤ v → v < many → Q (.int v t2) { s with heap := h', toks := tk' }) :
  wpAny (model PySem.Challenge.rw_qz0092_01.row.prog w) (ktrTop dp un gd cn cs L a ccd cl outer) (call (.ref 406) [.ref jl, .int many tk]) Q E s := by
  obtain ⟨R2, N2, ho, hs, hs2⟩ := split_news (Ex := [(jl, listOf #[.ref Dj, .int c tkc] n1)]) N (fun p hp => by rw [List.mem_singleton.mp hp]; exact mj)
  have hne : ∀ q ∈ W, q.1 ≠ jl → q ∈ R2 := fun q hq h => by
    rcases List.mem_append.mp (hs q hq) with h1 | h1
    · rw [List.mem_singleton.mp h1] at h; exact absurd rfl h
    · exact h1
  have N3 : News h₀ L s.heap ((jl, listOf #[.ref Dj, .int c tkc] n1) :: (Dj, listOf ws.toArray n2) :: R2) := fun q hq => by
    rcases List.mem_cons.mp hq with rfl | hq
    · exact N _ mj
    rcases List.mem_cons.mp hq with rfl | hq
    · exact N _ mD
    · exact N q (hs2 q hq)
  refine pour_spec B F X N3 T hk hD (fun q hq => ho q hq _ (.head _)) hI hlen hc hc2 hm hm2 hd hu fun h' tk' t t2 F' N' => ?_
  obtain ⟨b1, b2⟩ := pourV_bd (ns := ns) (c := c) hm
  exact ret h' tk' t _ t2 F' (fun q hq h => N' q (.tail _ (.tail _ (hne q hq h)))) (fun q hq => by rw [List.mem_singleton.mp hq]; exact N' _ (.head _)) b1 b2
theorem rng_small2 {n : Nat} (h : n ≤ 5) : PySem.Builtin.Range.small 0 (2 * (n : Int)) 1 = true := by
  have : n = 0 ∨ n = 1 ∨ n = 2 ∨ n = 3 ∨ n = 4 ∨ n = 5 := by omega
  rcases this with rfl | rfl | rfl | rfl | rfl | rfl <;> rfl
theorem rng_size2 {n : Nat} (h : n ≤ 5) : PySem.Builtin.Range.rangeSize 0 (2 * (n : Int)) 1 = ((2 * n : Nat) : Int) := by
  have : n = 0 ∨ n = 1 ∨ n = 2 ∨ n = 3 ∨ n = 4 ∨ n = 5 := by omega
  rcases this with rfl | rfl | rfl | rfl | rfl | rfl <;> rfl
namespace C_law_listed
noncomputable abbrev XX : Type := (World) × (Program) × (List PySem.Str) × (ExcName → Option Value) × (PySem.Str → Option Value) × (PySem.Str → Option Value) × (OwnA) × (List (List Int)) × (List Bool) × (Nat) × (Nat) × (Nat) × (Option (List Code)) × (Addr) × (List Env) × (Around) × (Heap) × (Heap) × (Addr) × (PySem.Str → Option Value) × (Shared) × (Flow → Shared → Prop) × (Value → Shared → Prop) × (Addr) × (Addr) × (Addr) × (Addr) × (Addr) × (Addr) × (Addr) × (Addr) × (Addr) × (Obj) × (Obj) × (Obj) × (Obj) × (Obj) × (Obj) × (Obj) × (Obj) × (Addr) × (Addr) × (Addr) × (Tok) × (Tok) × (Obj) × (Int) × (Nat) × (Nat) × (List Value) × (List Int) × (Nat) × (Nat) × (List Value) × (List Value) × (List Value) × (List Value) × (Nat → Addr) × (Nat → Nat) × (Nat → List Value) × (List Int) × (List (Addr × Obj))
noncomputable def StX (w : World) (p : Program) (loose : List PySem.Str) (mean : ExcName → Option Value) (mg : PySem.Str → Option Value) (mb : PySem.Str → Option Value) (o : OwnA) (plan : List (List Int)) (bl : List Bool) (n : Nat) (dp : Nat) (un : Nat) (gd : Option (List Code)) (a : Addr) (outer : List Env) (A₀ : Around) (base : Heap) (h₀ : Heap) (L : Addr) (m : PySem.Str → Option Value) (s : Shared) (Q : Flow → Shared → Prop) (E : Value → Shared → Prop) (cT : Addr) (cO : Addr) (cLt : Addr) (cH : Addr) (cE : Addr) (cP : Addr) (cC : Addr) (cM : Addr) (cJ : Addr) (oT : Obj) (oO : Obj) (oLt : Obj) (oH : Obj) (oE : Obj) (oP : Obj) (oC : Obj) (oM : Obj) (jl : Addr) (Dj : Addr) (Pe : Addr) (tm : Tok) (tkc : Tok) (oJ : Obj) (c : Int) (n1 : Nat) (n2 : Nat) (ws : List Value) (ns : List Int) (cE' : Nat) (c6 : Nat) (vh2 : List Value) (vd : List Value) (vf : List Value) (pes : List Value) (q : Nat → Addr) (cq : Nat → Nat) (pv : Nat → List Value) (es : List Int) (R : List (Addr × Obj)) : Prop :=
  ∀ (S : S) (OW : OwnOk w o plan bl n) (hvp : o.vp.length = n) (B : Below A₀ base outer h₀) (F : Fr h₀ L s.heap m) (X : (hd.heap_1 w.params).In h₀) (T : Top p loose mean mg mb h₀) (CH : CodeHd h₀ 429 427) (N : News h₀ L s.heap ((jl, listOf #[.ref Dj, .int c tkc] n1) :: ([(cT, oT), (cO, oO), (cLt, oLt), (cH, oH), (cE, oE), (cP, oP), (cC, oC), (cM, oM), (427, tabObj #[]), (cJ, oJ), (Dj, listOf ws.toArray n2)] ++ R))) (d1 : oT.data = .cell none) (d2 : oO.data = .cell (some (.ref o.od))) (d3 : oLt.data = .cell none) (d4 : oH.data = .cell none) (d5 : oE.data = .cell none) (d6 : oP.data = .cell none) (d7 : oC.data = .cell none) (d8 : oM.data = .cell (some (.int (n : Int) tm))) (d9 : oJ.data = .cell (some (.ref jl))) (hws : IntsAre ws ns) (hns : ns.length ≤ 40) (c0 : 0 ≤ c) (c1 : c < 100) (hDj : @LT.lt Nat _ Dj jl) (hDc : @LT.lt Nat _ cT Dj) (hRj : ∀ p ∈ R, p.1 ≠ jl) (k0 : @LT.lt Nat _ 427 L) (k1 : @LT.lt Nat _ L cJ) (k2 : @LT.lt Nat _ cJ cM) (k3 : @LT.lt Nat _ cM cC) (k4 : @LT.lt Nat _ cC cP) (k5 : @LT.lt Nat _ cP cE) (k6 : @LT.lt Nat _ cE cH) (k7 : @LT.lt Nat _ cH cLt) (k8 : @LT.lt Nat _ cLt cO) (k9 : @LT.lt Nat _ cO cT) (hR : ∀ p ∈ R, p.1 ∉ [cT, cO, cLt, cH, cE, cP, cC, cM, 427]) (r7 : ∀ p ∈ o.ex vh2 vd vf [] c6, p ∈ R) (r8 : ∀ j, j < n → (q j, listOf (pv j).toArray (cq j)) ∈ R) (r10 : (Pe, listOf pes.toArray cE') ∈ R) (hq : ∀ j, j < n → q j ∉ o.adr ∧ @Ne Nat Pe (q j)) (hPo : Pe ∉ o.adr) (items : ∀ j, j < n → o.vp[j]? = some (.ref (q j)) ∧ IntsAre (pv j) (plan.getD j [])) (g1 : S.held = List.replicate n true) (g3 : BoolsAre vh2 S.held) (g4 : BoolsAre vd S.done) (g5 : BoolsAre vf S.freed) (g6 : S.log = []) (gl : S.Len n) (hS0 : ∀ j, j < n → S.held.getD j false = true ∧ S.done.getD j false = false ∧ S.freed.getD j false = false) (hpe : m (PySem.Str.ofString "early") = some (.ref Pe)) (hes : IntsAre pes es) (hine : ∀ q ∈ es, 0 ≤ q ∧ q < (n : Int)) (hn0 : 0 < n) (hd : dp + 60 < recursionLimit) (hu : un + 600 < cLine) (ret : ∀ h' tk' m', Fr h₀ L h' m' → GrownAt 427 h' → Q (.ret (.bool true)) { s with heap := h', toks := tk' }), wpAny (model Pr w) (ktrTop dp un gd (PySem.Str.ofString "law") lawScope L a (.ref 429) (lawClA cT cO cLt cH cE cP cC cM cJ) outer) (execs (lawRest 5) (envX (PySem.Str.ofString "law") lawScope L a (.ref 429) (lawClA cT cO cLt cH cE cP cC cM cJ))) Q E s
theorem neX : Nonempty XX := by
  refine ⟨?_⟩
  repeat' (first | exact default | exact aWorld 1 | constructor | intro _)
noncomputable def cX : XX := @Classical.epsilon XX neX fun x => ¬ StX (x.1) (x.2.1) (x.2.2.1) (x.2.2.2.1) (x.2.2.2.2.1) (x.2.2.2.2.2.1) (x.2.2.2.2.2.2.1) (x.2.2.2.2.2.2.2.1) (x.2.2.2.2.2.2.2.2.1) (x.2.2.2.2.2.2.2.2.2.1) (x.2.2.2.2.2.2.2.2.2.2.1) (x.2.2.2.2.2.2.2.2.2.2.2.1) (x.2.2.2.2.2.2.2.2.2.2.2.2.1) (x.2.2.2.2.2.2.2.2.2.2.2.2.2.1) (x.2.2.2.2.2.2.2.2.2.2.2.2.2.2.1) (x.2.2.2.2.2.2.2.2.2.2.2.2.2.2.2.1) (x.2.2.2.2.2.2.2.2.2.2.2.2.2.2.2.2.1) (x.2.2.2.2.2.2.2.2.2.2.2.2.2.2.2.2.2.1) (x.2.2.2.2.2.2.2.2.2.2.2.2.2.2.2.2.2.2.1) (x.2.2.2.2.2.2.2.2.2.2.2.2.2.2.2.2.2.2.2.1) (x.2.2.2.2.2.2.2.2.2.2.2.2.2.2.2.2.2.2.2.2.1) (x.2.2.2.2.2.2.2.2.2.2.2.2.2.2.2.2.2.2.2.2.2.1) (x.2.2.2.2.2.2.2.2.2.2.2.2.2.2.2.2.2.2.2.2.2.2.1) (x.2.2.2.2.2.2.2.2.2.2.2.2.2.2.2.2.2.2.2.2.2.2.2.1) (x.2.2.2.2.2.2.2.2.2.2.2.2.2.2.2.2.2.2.2.2.2.2.2.2.1) (x.2.2.2.2.2.2.2.2.2.2.2.2.2.2.2.2.2.2.2.2.2.2.2.2.2.1) (x.2.2.2.2.2.2.2.2.2.2.2.2.2.2.2.2.2.2.2.2.2.2.2.2.2.2.1) (x.2.2.2.2.2.2.2.2.2.2.2.2.2.2.2.2.2.2.2.2.2.2.2.2.2.2.2.1) (x.2.2.2.2.2.2.2.2.2.2.2.2.2.2.2.2.2.2.2.2.2.2.2.2.2.2.2.2.1) (x.2.2.2.2.2.2.2.2.2.2.2.2.2.2.2.2.2.2.2.2.2.2.2.2.2.2.2.2.2.1) (x.2.2.2.2.2.2.2.2.2.2.2.2.2.2.2.2.2.2.2.2.2.2.2.2.2.2.2.2.2.2.1) (x.2.2.2.2.2.2.2.2.2.2.2.2.2.2.2.2.2.2.2.2.2.2.2.2.2.2.2.2.2.2.2.1) (x.2.2.2.2.2.2.2.2.2.2.2.2.2.2.2.2.2.2.2.2.2.2.2.2.2.2.2.2.2.2.2.2.1) (x.2.2.2.2.2.2.2.2.2.2.2.2.2.2.2.2.2.2.2.2.2.2.2.2.2.2.2.2.2.2.2.2.2.1) (x.2.2.2.2.2.2.2.2.2.2.2.2.2.2.2.2.2.2.2.2.2.2.2.2.2.2.2.2.2.2.2.2.2.2.1) (x.2.2.2.2.2.2.2.2.2.2.2.2.2.2.2.2.2.2.2.2.2.2.2.2.2.2.2.2.2.2.2.2.2.2.2.1) (x.2.2.2.2.2.2.2.2.2.2.2.2.2.2.2.2.2.2.2.2.2.2.2.2.2.2.2.2.2.2.2.2.2.2.2.2.1) (x.2.2.2.2.2.2.2.2.2.2.2.2.2.2.2.2.2.2.2.2.2.2.2.2.2.2.2.2.2.2.2.2.2.2.2.2.2.1) (x.2.2.2.2.2.2.2.2.2.2.2.2.2.2.2.2.2.2.2.2.2.2.2.2.2.2.2.2.2.2.2.2.2.2.2.2.2.2.1) (x.2.2.2.2.2.2.2.2.2.2.2.2.2.2.2.2.2.2.2.2.2.2.2.2.2.2.2.2.2.2.2.2.2.2.2.2.2.2.2.1) (x.2.2.2.2.2.2.2.2.2.2.2.2.2.2.2.2.2.2.2.2.2.2.2.2.2.2.2.2.2.2.2.2.2.2.2.2.2.2.2.2.1) (x.2.2.2.2.2.2.2.2.2.2.2.2.2.2.2.2.2.2.2.2.2.2.2.2.2.2.2.2.2.2.2.2.2.2.2.2.2.2.2.2.2.1) (x.2.2.2.2.2.2.2.2.2.2.2.2.2.2.2.2.2.2.2.2.2.2.2.2.2.2.2.2.2.2.2.2.2.2.2.2.2.2.2.2.2.2.1) (x.2.2.2.2.2.2.2.2.2.2.2.2.2.2.2.2.2.2.2.2.2.2.2.2.2.2.2.2.2.2.2.2.2.2.2.2.2.2.2.2.2.2.2.1) (x.2.2.2.2.2.2.2.2.2.2.2.2.2.2.2.2.2.2.2.2.2.2.2.2.2.2.2.2.2.2.2.2.2.2.2.2.2.2.2.2.2.2.2.2.1) (x.2.2.2.2.2.2.2.2.2.2.2.2.2.2.2.2.2.2.2.2.2.2.2.2.2.2.2.2.2.2.2.2.2.2.2.2.2.2.2.2.2.2.2.2.2.1) (x.2.2.2.2.2.2.2.2.2.2.2.2.2.2.2.2.2.2.2.2.2.2.2.2.2.2.2.2.2.2.2.2.2.2.2.2.2.2.2.2.2.2.2.2.2.2.1) (x.2.2.2.2.2.2.2.2.2.2.2.2.2.2.2.2.2.2.2.2.2.2.2.2.2.2.2.2.2.2.2.2.2.2.2.2.2.2.2.2.2.2.2.2.2.2.2.1) (x.2.2.2.2.2.2.2.2.2.2.2.2.2.2.2.2.2.2.2.2.2.2.2.2.2.2.2.2.2.2.2.2.2.2.2.2.2.2.2.2.2.2.2.2.2.2.2.2.1) (x.2.2.2.2.2.2.2.2.2.2.2.2.2.2.2.2.2.2.2.2.2.2.2.2.2.2.2.2.2.2.2.2.2.2.2.2.2.2.2.2.2.2.2.2.2.2.2.2.2.1) (x.2.2.2.2.2.2.2.2.2.2.2.2.2.2.2.2.2.2.2.2.2.2.2.2.2.2.2.2.2.2.2.2.2.2.2.2.2.2.2.2.2.2.2.2.2.2.2.2.2.2.1) (x.2.2.2.2.2.2.2.2.2.2.2.2.2.2.2.2.2.2.2.2.2.2.2.2.2.2.2.2.2.2.2.2.2.2.2.2.2.2.2.2.2.2.2.2.2.2.2.2.2.2.2.1) (x.2.2.2.2.2.2.2.2.2.2.2.2.2.2.2.2.2.2.2.2.2.2.2.2.2.2.2.2.2.2.2.2.2.2.2.2.2.2.2.2.2.2.2.2.2.2.2.2.2.2.2.2.1) (x.2.2.2.2.2.2.2.2.2.2.2.2.2.2.2.2.2.2.2.2.2.2.2.2.2.2.2.2.2.2.2.2.2.2.2.2.2.2.2.2.2.2.2.2.2.2.2.2.2.2.2.2.2.1) (x.2.2.2.2.2.2.2.2.2.2.2.2.2.2.2.2.2.2.2.2.2.2.2.2.2.2.2.2.2.2.2.2.2.2.2.2.2.2.2.2.2.2.2.2.2.2.2.2.2.2.2.2.2.2.1) (x.2.2.2.2.2.2.2.2.2.2.2.2.2.2.2.2.2.2.2.2.2.2.2.2.2.2.2.2.2.2.2.2.2.2.2.2.2.2.2.2.2.2.2.2.2.2.2.2.2.2.2.2.2.2.2.1) (x.2.2.2.2.2.2.2.2.2.2.2.2.2.2.2.2.2.2.2.2.2.2.2.2.2.2.2.2.2.2.2.2.2.2.2.2.2.2.2.2.2.2.2.2.2.2.2.2.2.2.2.2.2.2.2.2.1) (x.2.2.2.2.2.2.2.2.2.2.2.2.2.2.2.2.2.2.2.2.2.2.2.2.2.2.2.2.2.2.2.2.2.2.2.2.2.2.2.2.2.2.2.2.2.2.2.2.2.2.2.2.2.2.2.2.2.1) (x.2.2.2.2.2.2.2.2.2.2.2.2.2.2.2.2.2.2.2.2.2.2.2.2.2.2.2.2.2.2.2.2.2.2.2.2.2.2.2.2.2.2.2.2.2.2.2.2.2.2.2.2.2.2.2.2.2.2.1) (x.2.2.2.2.2.2.2.2.2.2.2.2.2.2.2.2.2.2.2.2.2.2.2.2.2.2.2.2.2.2.2.2.2.2.2.2.2.2.2.2.2.2.2.2.2.2.2.2.2.2.2.2.2.2.2.2.2.2.2.1) (x.2.2.2.2.2.2.2.2.2.2.2.2.2.2.2.2.2.2.2.2.2.2.2.2.2.2.2.2.2.2.2.2.2.2.2.2.2.2.2.2.2.2.2.2.2.2.2.2.2.2.2.2.2.2.2.2.2.2.2.2.1) (x.2.2.2.2.2.2.2.2.2.2.2.2.2.2.2.2.2.2.2.2.2.2.2.2.2.2.2.2.2.2.2.2.2.2.2.2.2.2.2.2.2.2.2.2.2.2.2.2.2.2.2.2.2.2.2.2.2.2.2.2.2)
@[irreducible] noncomputable def w := cX.1
@[irreducible] noncomputable def p := cX.2.1
@[irreducible] noncomputable def loose := cX.2.2.1
@[irreducible] noncomputable def mean := cX.2.2.2.1
@[irreducible] noncomputable def mg := cX.2.2.2.2.1
@[irreducible] noncomputable def mb := cX.2.2.2.2.2.1
@[irreducible] noncomputable def o := cX.2.2.2.2.2.2.1
@[irreducible] noncomputable def plan := cX.2.2.2.2.2.2.2.1
@[irreducible] noncomputable def bl := cX.2.2.2.2.2.2.2.2.1
@[irreducible] noncomputable def n := cX.2.2.2.2.2.2.2.2.2.1
@[irreducible] noncomputable def dp := cX.2.2.2.2.2.2.2.2.2.2.1
@[irreducible] noncomputable def un := cX.2.2.2.2.2.2.2.2.2.2.2.1
@[irreducible] noncomputable def gd := cX.2.2.2.2.2.2.2.2.2.2.2.2.1
@[irreducible] noncomputable def a := cX.2.2.2.2.2.2.2.2.2.2.2.2.2.1
@[irreducible] noncomputable def outer := cX.2.2.2.2.2.2.2.2.2.2.2.2.2.2.1
@[irreducible] noncomputable def A₀ := cX.2.2.2.2.2.2.2.2.2.2.2.2.2.2.2.1
@[irreducible] noncomputable def base := cX.2.2.2.2.2.2.2.2.2.2.2.2.2.2.2.2.1
@[irreducible] noncomputable def h₀ := cX.2.2.2.2.2.2.2.2.2.2.2.2.2.2.2.2.2.1
@[irreducible] noncomputable def L := cX.2.2.2.2.2.2.2.2.2.2.2.2.2.2.2.2.2.2.1
@[irreducible] noncomputable def m := cX.2.2.2.2.2.2.2.2.2.2.2.2.2.2.2.2.2.2.2.1
@[irreducible] noncomputable def s := cX.2.2.2.2.2.2.2.2.2.2.2.2.2.2.2.2.2.2.2.2.1
@[irreducible] noncomputable def Q := cX.2.2.2.2.2.2.2.2.2.2.2.2.2.2.2.2.2.2.2.2.2.1
@[irreducible] noncomputable def E := cX.2.2.2.2.2.2.2.2.2.2.2.2.2.2.2.2.2.2.2.2.2.2.1
@[irreducible] noncomputable def cT := cX.2.2.2.2.2.2.2.2.2.2.2.2.2.2.2.2.2.2.2.2.2.2.2.1
@[irreducible] noncomputable def cO := cX.2.2.2.2.2.2.2.2.2.2.2.2.2.2.2.2.2.2.2.2.2.2.2.2.1
@[irreducible] noncomputable def cLt := cX.2.2.2.2.2.2.2.2.2.2.2.2.2.2.2.2.2.2.2.2.2.2.2.2.2.1
@[irreducible] noncomputable def cH := cX.2.2.2.2.2.2.2.2.2.2.2.2.2.2.2.2.2.2.2.2.2.2.2.2.2.2.1
@[irreducible] noncomputable def cE := cX.2.2.2.2.2.2.2.2.2.2.2.2.2.2.2.2.2.2.2.2.2.2.2.2.2.2.2.1
@[irreducible] noncomputable def cP := cX.2.2.2.2.2.2.2.2.2.2.2.2.2.2.2.2.2.2.2.2.2.2.2.2.2.2.2.2.1
@[irreducible] noncomputable def cC := cX.2.2.2.2.2.2.2.2.2.2.2.2.2.2.2.2.2.2.2.2.2.2.2.2.2.2.2.2.2.1
@[irreducible] noncomputable def cM := cX.2.2.2.2.2.2.2.2.2.2.2.2.2.2.2.2.2.2.2.2.2.2.2.2.2.2.2.2.2.2.1
@[irreducible] noncomputable def cJ := cX.2.2.2.2.2.2.2.2.2.2.2.2.2.2.2.2.2.2.2.2.2.2.2.2.2.2.2.2.2.2.2.1
@[irreducible] noncomputable def oT := cX.2.2.2.2.2.2.2.2.2.2.2.2.2.2.2.2.2.2.2.2.2.2.2.2.2.2.2.2.2.2.2.2.1
@[irreducible] noncomputable def oO := cX.2.2.2.2.2.2.2.2.2.2.2.2.2.2.2.2.2.2.2.2.2.2.2.2.2.2.2.2.2.2.2.2.2.1
@[irreducible] noncomputable def oLt := cX.2.2.2.2.2.2.2.2.2.2.2.2.2.2.2.2.2.2.2.2.2.2.2.2.2.2.2.2.2.2.2.2.2.2.1
@[irreducible] noncomputable def oH := cX.2.2.2.2.2.2.2.2.2.2.2.2.2.2.2.2.2.2.2.2.2.2.2.2.2.2.2.2.2.2.2.2.2.2.2.1
@[irreducible] noncomputable def oE := cX.2.2.2.2.2.2.2.2.2.2.2.2.2.2.2.2.2.2.2.2.2.2.2.2.2.2.2.2.2.2.2.2.2.2.2.2.1
@[irreducible] noncomputable def oP := cX.2.2.2.2.2.2.2.2.2.2.2.2.2.2.2.2.2.2.2.2.2.2.2.2.2.2.2.2.2.2.2.2.2.2.2.2.2.1
@[irreducible] noncomputable def oC := cX.2.2.2.2.2.2.2.2.2.2.2.2.2.2.2.2.2.2.2.2.2.2.2.2.2.2.2.2.2.2.2.2.2.2.2.2.2.2.1
@[irreducible] noncomputable def oM := cX.2.2.2.2.2.2.2.2.2.2.2.2.2.2.2.2.2.2.2.2.2.2.2.2.2.2.2.2.2.2.2.2.2.2.2.2.2.2.2.1
@[irreducible] noncomputable def jl := cX.2.2.2.2.2.2.2.2.2.2.2.2.2.2.2.2.2.2.2.2.2.2.2.2.2.2.2.2.2.2.2.2.2.2.2.2.2.2.2.2.1
@[irreducible] noncomputable def Dj := cX.2.2.2.2.2.2.2.2.2.2.2.2.2.2.2.2.2.2.2.2.2.2.2.2.2.2.2.2.2.2.2.2.2.2.2.2.2.2.2.2.2.1
@[irreducible] noncomputable def Pe := cX.2.2.2.2.2.2.2.2.2.2.2.2.2.2.2.2.2.2.2.2.2.2.2.2.2.2.2.2.2.2.2.2.2.2.2.2.2.2.2.2.2.2.1
@[irreducible] noncomputable def tm := cX.2.2.2.2.2.2.2.2.2.2.2.2.2.2.2.2.2.2.2.2.2.2.2.2.2.2.2.2.2.2.2.2.2.2.2.2.2.2.2.2.2.2.2.1
@[irreducible] noncomputable def tkc := cX.2.2.2.2.2.2.2.2.2.2.2.2.2.2.2.2.2.2.2.2.2.2.2.2.2.2.2.2.2.2.2.2.2.2.2.2.2.2.2.2.2.2.2.2.1
@[irreducible] noncomputable def oJ := cX.2.2.2.2.2.2.2.2.2.2.2.2.2.2.2.2.2.2.2.2.2.2.2.2.2.2.2.2.2.2.2.2.2.2.2.2.2.2.2.2.2.2.2.2.2.1
@[irreducible] noncomputable def c := cX.2.2.2.2.2.2.2.2.2.2.2.2.2.2.2.2.2.2.2.2.2.2.2.2.2.2.2.2.2.2.2.2.2.2.2.2.2.2.2.2.2.2.2.2.2.2.1
@[irreducible] noncomputable def n1 := cX.2.2.2.2.2.2.2.2.2.2.2.2.2.2.2.2.2.2.2.2.2.2.2.2.2.2.2.2.2.2.2.2.2.2.2.2.2.2.2.2.2.2.2.2.2.2.2.1
@[irreducible] noncomputable def n2 := cX.2.2.2.2.2.2.2.2.2.2.2.2.2.2.2.2.2.2.2.2.2.2.2.2.2.2.2.2.2.2.2.2.2.2.2.2.2.2.2.2.2.2.2.2.2.2.2.2.1
@[irreducible] noncomputable def ws := cX.2.2.2.2.2.2.2.2.2.2.2.2.2.2.2.2.2.2.2.2.2.2.2.2.2.2.2.2.2.2.2.2.2.2.2.2.2.2.2.2.2.2.2.2.2.2.2.2.2.1
@[irreducible] noncomputable def ns := cX.2.2.2.2.2.2.2.2.2.2.2.2.2.2.2.2.2.2.2.2.2.2.2.2.2.2.2.2.2.2.2.2.2.2.2.2.2.2.2.2.2.2.2.2.2.2.2.2.2.2.1
@[irreducible] noncomputable def cE' := cX.2.2.2.2.2.2.2.2.2.2.2.2.2.2.2.2.2.2.2.2.2.2.2.2.2.2.2.2.2.2.2.2.2.2.2.2.2.2.2.2.2.2.2.2.2.2.2.2.2.2.2.1
@[irreducible] noncomputable def c6 := cX.2.2.2.2.2.2.2.2.2.2.2.2.2.2.2.2.2.2.2.2.2.2.2.2.2.2.2.2.2.2.2.2.2.2.2.2.2.2.2.2.2.2.2.2.2.2.2.2.2.2.2.2.1
@[irreducible] noncomputable def vh2 := cX.2.2.2.2.2.2.2.2.2.2.2.2.2.2.2.2.2.2.2.2.2.2.2.2.2.2.2.2.2.2.2.2.2.2.2.2.2.2.2.2.2.2.2.2.2.2.2.2.2.2.2.2.2.1
@[irreducible] noncomputable def vd := cX.2.2.2.2.2.2.2.2.2.2.2.2.2.2.2.2.2.2.2.2.2.2.2.2.2.2.2.2.2.2.2.2.2.2.2.2.2.2.2.2.2.2.2.2.2.2.2.2.2.2.2.2.2.2.1
@[irreducible] noncomputable def vf := cX.2.2.2.2.2.2.2.2.2.2.2.2.2.2.2.2.2.2.2.2.2.2.2.2.2.2.2.2.2.2.2.2.2.2.2.2.2.2.2.2.2.2.2.2.2.2.2.2.2.2.2.2.2.2.2.1
@[irreducible] noncomputable def pes := cX.2.2.2.2.2.2.2.2.2.2.2.2.2.2.2.2.2.2.2.2.2.2.2.2.2.2.2.2.2.2.2.2.2.2.2.2.2.2.2.2.2.2.2.2.2.2.2.2.2.2.2.2.2.2.2.2.1
@[irreducible] noncomputable def q := cX.2.2.2.2.2.2.2.2.2.2.2.2.2.2.2.2.2.2.2.2.2.2.2.2.2.2.2.2.2.2.2.2.2.2.2.2.2.2.2.2.2.2.2.2.2.2.2.2.2.2.2.2.2.2.2.2.2.1
@[irreducible] noncomputable def cq := cX.2.2.2.2.2.2.2.2.2.2.2.2.2.2.2.2.2.2.2.2.2.2.2.2.2.2.2.2.2.2.2.2.2.2.2.2.2.2.2.2.2.2.2.2.2.2.2.2.2.2.2.2.2.2.2.2.2.2.1
@[irreducible] noncomputable def pv := cX.2.2.2.2.2.2.2.2.2.2.2.2.2.2.2.2.2.2.2.2.2.2.2.2.2.2.2.2.2.2.2.2.2.2.2.2.2.2.2.2.2.2.2.2.2.2.2.2.2.2.2.2.2.2.2.2.2.2.2.1
@[irreducible] noncomputable def es := cX.2.2.2.2.2.2.2.2.2.2.2.2.2.2.2.2.2.2.2.2.2.2.2.2.2.2.2.2.2.2.2.2.2.2.2.2.2.2.2.2.2.2.2.2.2.2.2.2.2.2.2.2.2.2.2.2.2.2.2.2.1
@[irreducible] noncomputable def R := cX.2.2.2.2.2.2.2.2.2.2.2.2.2.2.2.2.2.2.2.2.2.2.2.2.2.2.2.2.2.2.2.2.2.2.2.2.2.2.2.2.2.2.2.2.2.2.2.2.2.2.2.2.2.2.2.2.2.2.2.2.2
theorem core : StX w p loose mean mg mb o plan bl n dp un gd a outer A₀ base h₀ L m s Q E cT cO cLt cH cE cP cC cM cJ oT oO oLt oH oE oP oC oM jl Dj Pe tm tkc oJ c n1 n2 ws ns cE' c6 vh2 vd vf pes q cq pv es R := by
  unfold StX
  intro S OW hvp B F X T CH N d1 d2 d3 d4 d5 d6 d7 d8 d9 hws hns c0 c1 hDj hDc hRj k0 k1 k2 k3 k4 k5 k6 k7 k8 k9 hR r7 r8 r10 hq hPo items g1 g3 g4 g5 g6 gl hS0 hpe hes hine hn0 hd hu ret
  unfold Pr
  refine wpAny_noRaise ?_
  rw [show lawRest 5 = _ :: lawRest 6 from rfl]
  rw [show lawScope = { kind := _, names := _, isGenerator := _, isCoroutine := _, more := _ } from rfl]
  revert X; k_fill; intro X
  have hn5 := OW.small
  have ecM := d8
  have ecJ := d9
  have Nw := fun _ : Unit => N
  have N1 : News h₀ L s.heap [(cM, oM)] := news_sub N (fun p hp => by rw [List.mem_singleton.mp hp]; exact .tail _ (List.mem_append_left _ (by first | k_mem | simp)))
  clear N
  repeat' ((fail_if_success (with_reducible show LCg.CompSrc _ _ _ _ _ _ _ _ _ _ _ _ _ _)); (first | (k_unfold; (try dsimp only)) | walk1 | (dsimp only; walk1) | fail "no step"))
  rename IsRange _ _ _ _ _ _ _ _ => hRg
  rename Fr _ _ _ _ => F9
  rename ∀ b o, Heap.get? _ b = some o → Heap.get? _ b = some o => kp0
  have N2 : News h₀ L _ ((jl, listOf #[.ref Dj, .int c tkc] n1) :: ([(cT, oT), (cO, oO), (cLt, oLt), (cH, oH), (cE, oE), (cP, oP), (cC, oC), (cM, oM), (427, tabObj #[]), (cJ, oJ), (Dj, listOf ws.toArray n2)] ++ R)) := fun p hp => ⟨kp0 _ _ ((Nw ()) p hp).1, ((Nw ()) p hp).2⟩
  k_dflt (refine' LCg.CompSrc.range (n := 2 * n) ?hh F9 N2 hRg (rng_small2 hn5) (rng_size2 hn5) ?zz ?_)
  case hh => rfl
  case zz => rw [PySem.sizeLine_eq]; omega
  intro gh
  (repeat ((rename News _ _ _ _ => N2x); clear N2x))
  have hCj : ∀ p ∈ [(cT, oT), (cO, oO), (cLt, oLt), (cH, oH), (cE, oE), (cP, oP), (cC, oC), (cM, oM), (427, tabObj #[]), (cJ, oJ), (Dj, listOf ws.toArray n2)] ++ R, p.1 ≠ jl := fun p hp => by
    rcases List.mem_append.mp hp with hp | hp
    · replace hp := mem_ors hp
      rcases hp with rfl | rfl | rfl | rfl | rfl | rfl | rfl | rfl | rfl | rfl | rfl <;> (show ¬ @Eq Nat _ _) <;> omega
    · exact hRj p hp
  refine comp_inv (fun i ys nx => ∃ (c' : Int) (t' : Tok) (qs : List Int), nx = (jl, listOf #[.ref Dj, .int c' t'] n1) :: ([(cT, oT), (cO, oO), (cLt, oLt), (cH, oH), (cE, oE), (cP, oP), (cC, oC), (cM, oM), (427, tabObj #[]), (cJ, oJ), (Dj, listOf ws.toArray n2)] ++ R) ∧ 0 ≤ c' ∧ c' < 100 + (i : Int) ∧ IntsAre ys qs ∧ qs.length = i ∧ ∀ q ∈ qs, 0 ≤ q ∧ q < (n : Int)) ?_ ⟨c, tkc, [], rfl, c0, by omega, .nil, rfl, fun _ h => nomatch h⟩ ?_
  · rintro i v I oI C oC' D m₂ ys nx h tk E' hi ⟨t, rfl⟩ ⟨c', t', qs, rfl, e1, e2, e3, e4, e5⟩ hC hx F2 N2 off ne2
    have N2w := fun _ : Unit => N2
    have N3 : News h₀ L h [(cM, oM), (cJ, oJ)] := fun p hp => N2 p (.tail _ (.tail _ (.tail _ (.tail _ (List.mem_append_left _ (by
      replace hp := mem_ors hp
      rcases hp with rfl | rfl <;> first | k_mem | simp))))))
    clear N2
    (try k_fold)
    repeat' ((fail_if_success (with_reducible show wpAny _ _ (call (Value.ref 406) _) _ _ _)); (first | (k_unfold; (try dsimp only)) | walk1 | (dsimp only; walk1) | fail "no step"))
    (try dsimp only)
    have NW := N2w ()
    clear N3
    have off2 := off.mem
    k_dflt (refine' pour_in (Dj := Dj) (ws := ws) (n2 := n2) B F2 X NW (.tail _ (.tail _ (.tail _ (.head _)))) (.tail _ (.tail _ (.tail _ (.tail _ (List.mem_append_left _ (by first | k_mem | simp)))))) T ?k5 hDj hws hns e1 (by omega) (by omega) (by omega) ?kd ?ku ?_)
    case k5 => rfl
    case kd => ktr_room
    case ku => ktr_units
    intro h6 tk6 t6 v6 t7 F6 keep Nj b1 b2
    refine ⟨h6, tk6, (jl, listOf #[.ref Dj, .int (c' + 1) t6] n1) :: ([(cT, oT), (cO, oO), (cLt, oLt), (cH, oH), (cE, oE), (cP, oP), (cC, oC), (cM, oM), (427, tabObj #[]), (cJ, oJ), (Dj, listOf ws.toArray n2)] ++ R), rfl, F6, fun p hp => ?_, LCg.Off3.of fun p hp => ?_, trivial, c' + 1, t6, qs ++ [v6], rfl, by omega, by omega, IntsAre.append e3 (.cons v6 t7 .nil), by rw [List.length_append, e4]; rfl, fun q hq => ?_⟩
    · obtain ⟨a1, a2, a3⟩ := off2 _ (.head _)
      rcases List.mem_cons.mp hp with rfl | hp
      · exact keep _ (.head _) (Ne.symm a1)
      rcases List.mem_cons.mp hp with rfl | hp
      · exact keep _ (.tail _ (.head _)) (Ne.symm a2)
      rcases List.mem_cons.mp hp with rfl | hp
      · exact keep _ (.tail _ (.tail _ (.head _))) (Ne.symm a3)
      rcases List.mem_cons.mp hp with rfl | hp
      · exact Nj _ (.head _)
      · exact keep p (.tail _ (.tail _ (.tail _ (.tail _ hp)))) (hCj p hp)
    · rcases List.mem_cons.mp hp with rfl | hp
      · exact off2 (jl, listOf #[.ref Dj, .int c' t'] n1) (.head _)
      · exact off2 p (.tail _ hp)
    · rcases List.mem_append.mp hq with hq | hq
      · exact e5 q hq
      · rw [List.mem_singleton.mp hq]; exact ⟨b1, b2⟩
  · rintro ys nx ⟨c', t', qs, rfl, e1, e2, e3, e4, e5⟩
    unfold LCg.FinA
    intro P hD tkD F2 N2' o1
    have o2 := off1_mem o1
    (try dsimp only)
    have PR : ∀ p ∈ [(cT, oT), (cO, oO), (cLt, oLt), (cH, oH), (cE, oE), (cP, oP), (cC, oC), (cM, oM), (427, tabObj #[]), (cJ, oJ), (Dj, listOf ws.toArray n2)] ++ R, @Ne Nat p.1 P := fun p hp => o2 p (.tail _ hp)
    have Pown : P ∉ o.adr := fun hm => by
      have : ∃ v, (P, v) ∈ o.ex vh2 vd vf [] c6 := by
        replace hm := mem_ors hm
        rcases hm with e | e | e | e | e | e | e <;> rw [e]
        · exact ⟨_, .head _⟩
        · exact ⟨_, .tail _ (.head _)⟩
        · exact ⟨_, .tail _ (.tail _ (.head _))⟩
        · exact ⟨_, .tail _ (.tail _ (.tail _ (.head _)))⟩
        · exact ⟨_, .tail _ (.tail _ (.tail _ (.tail _ (.head _))))⟩
        · exact ⟨_, .tail _ (.tail _ (.tail _ (.tail _ (.tail _ (.head _)))))⟩
        · exact ⟨_, .tail _ (.tail _ (.tail _ (.tail _ (.tail _ (.tail _ (.head _))))))⟩
      obtain ⟨v, hv⟩ := this
      exact PR _ (List.mem_append_right _ (r7 _ hv)) rfl
    have Pc : P ∉ [cT, cO, cLt, cH, cE, cP, cC, cM, 427] := fun hm => by
      have : ∃ v, (P, v) ∈ [(cT, oT), (cO, oO), (cLt, oLt), (cH, oH), (cE, oE), (cP, oP), (cC, oC), (cM, oM), (427, tabObj #[]), (cJ, oJ), (Dj, listOf ws.toArray n2)] := by
        replace hm := mem_ors hm
        rcases hm with rfl | rfl | rfl | rfl | rfl | rfl | rfl | rfl | rfl
        · exact ⟨oT, by simp⟩
        · exact ⟨oO, by simp⟩
        · exact ⟨oLt, by simp⟩
        · exact ⟨oH, by simp⟩
        · exact ⟨oE, by simp⟩
        · exact ⟨oP, by simp⟩
        · exact ⟨oC, by simp⟩
        · exact ⟨oM, by simp⟩
        · exact ⟨tabObj #[], by simp⟩
      obtain ⟨v, hv⟩ := this
      exact PR _ (List.mem_append_left _ hv) rfl
    refine law_things OW hvp (P := P) (Pe := Pe) (pls := ys) (ps := qs) (S := S) (R := (P, LCg.lst ys) :: R) (q := q) (cq := cq) (pv := pv) B F2 X T CH (fun p hp => ?kN) d1 d2 d3 d4 d5 d6 d7 d8 k0 k1 k2 k3 k4 k5 k6 k7 k8 k9 (fun p hp => ?kR) (fun p hp => .tail _ (r7 p hp)) (fun j hj => .tail _ (r8 j hj)) (.head _) (.tail _ r10) (fun j hj => ⟨(hq j hj).1, fun e => PR _ (List.mem_append_right _ (r8 j hj)) e.symm, (hq j hj).2⟩) ⟨Pown, hPo⟩ items g1 g3 g4 g5 g6 gl hS0 (by show (if _ = _ then _ else _) = _; rw [if_pos rfl]) e3 e5 (by omega) (by show (if _ = _ then _ else _) = _; rw [if_neg (by decide)]; exact hpe) hes hine hd hu fun h' tk' m' F' => ret _ _ _ F'
    case kN =>
      rcases List.mem_append.mp hp with hp | hp
      · refine N2' p (.tail _ (.tail _ (List.mem_append_left _ ?_)))
        rcases mem_ors hp with rfl | rfl | rfl | rfl | rfl | rfl | rfl | rfl | rfl <;> k_mem
      · rcases List.mem_cons.mp hp with rfl | hp
        · exact N2' _ (.head _)
        · exact N2' p (.tail _ (.tail _ (List.mem_append_right _ hp)))
    case kR =>
      rcases List.mem_cons.mp hp with rfl | hp
      · exact Pc
      · exact hR p hp
theorem all (x : XX) : StX (x.1) (x.2.1) (x.2.2.1) (x.2.2.2.1) (x.2.2.2.2.1) (x.2.2.2.2.2.1) (x.2.2.2.2.2.2.1) (x.2.2.2.2.2.2.2.1) (x.2.2.2.2.2.2.2.2.1) (x.2.2.2.2.2.2.2.2.2.1) (x.2.2.2.2.2.2.2.2.2.2.1) (x.2.2.2.2.2.2.2.2.2.2.2.1) (x.2.2.2.2.2.2.2.2.2.2.2.2.1) (x.2.2.2.2.2.2.2.2.2.2.2.2.2.1) (x.2.2.2.2.2.2.2.2.2.2.2.2.2.2.1) (x.2.2.2.2.2.2.2.2.2.2.2.2.2.2.2.1) (x.2.2.2.2.2.2.2.2.2.2.2.2.2.2.2.2.1) (x.2.2.2.2.2.2.2.2.2.2.2.2.2.2.2.2.2.1) (x.2.2.2.2.2.2.2.2.2.2.2.2.2.2.2.2.2.2.1) (x.2.2.2.2.2.2.2.2.2.2.2.2.2.2.2.2.2.2.2.1) (x.2.2.2.2.2.2.2.2.2.2.2.2.2.2.2.2.2.2.2.2.1) (x.2.2.2.2.2.2.2.2.2.2.2.2.2.2.2.2.2.2.2.2.2.1) (x.2.2.2.2.2.2.2.2.2.2.2.2.2.2.2.2.2.2.2.2.2.2.1) (x.2.2.2.2.2.2.2.2.2.2.2.2.2.2.2.2.2.2.2.2.2.2.2.1) (x.2.2.2.2.2.2.2.2.2.2.2.2.2.2.2.2.2.2.2.2.2.2.2.2.1) (x.2.2.2.2.2.2.2.2.2.2.2.2.2.2.2.2.2.2.2.2.2.2.2.2.2.1) (x.2.2.2.2.2.2.2.2.2.2.2.2.2.2.2.2.2.2.2.2.2.2.2.2.2.2.1) (x.2.2.2.2.2.2.2.2.2.2.2.2.2.2.2.2.2.2.2.2.2.2.2.2.2.2.2.1) (x.2.2.2.2.2.2.2.2.2.2.2.2.2.2.2.2.2.2.2.2.2.2.2.2.2.2.2.2.1) (x.2.2.2.2.2.2.2.2.2.2.2.2.2.2.2.2.2.2.2.2.2.2.2.2.2.2.2.2.2.1) (x.2.2.2.2.2.2.2.2.2.2.2.2.2.2.2.2.2.2.2.2.2.2.2.2.2.2.2.2.2.2.1) (x.2.2.2.2.2.2.2.2.2.2.2.2.2.2.2.2.2.2.2.2.2.2.2.2.2.2.2.2.2.2.2.1) (x.2.2.2.2.2.2.2.2.2.2.2.2.2.2.2.2.2.2.2.2.2.2.2.2.2.2.2.2.2.2.2.2.1) (x.2.2.2.2.2.2.2.2.2.2.2.2.2.2.2.2.2.2.2.2.2.2.2.2.2.2.2.2.2.2.2.2.2.1) (x.2.2.2.2.2.2.2.2.2.2.2.2.2.2.2.2.2.2.2.2.2.2.2.2.2.2.2.2.2.2.2.2.2.2.1) (x.2.2.2.2.2.2.2.2.2.2.2.2.2.2.2.2.2.2.2.2.2.2.2.2.2.2.2.2.2.2.2.2.2.2.2.1) (x.2.2.2.2.2.2.2.2.2.2.2.2.2.2.2.2.2.2.2.2.2.2.2.2.2.2.2.2.2.2.2.2.2.2.2.2.1) (x.2.2.2.2.2.2.2.2.2.2.2.2.2.2.2.2.2.2.2.2.2.2.2.2.2.2.2.2.2.2.2.2.2.2.2.2.2.1) (x.2.2.2.2.2.2.2.2.2.2.2.2.2.2.2.2.2.2.2.2.2.2.2.2.2.2.2.2.2.2.2.2.2.2.2.2.2.2.1) (x.2.2.2.2.2.2.2.2.2.2.2.2.2.2.2.2.2.2.2.2.2.2.2.2.2.2.2.2.2.2.2.2.2.2.2.2.2.2.2.1) (x.2.2.2.2.2.2.2.2.2.2.2.2.2.2.2.2.2.2.2.2.2.2.2.2.2.2.2.2.2.2.2.2.2.2.2.2.2.2.2.2.1) (x.2.2.2.2.2.2.2.2.2.2.2.2.2.2.2.2.2.2.2.2.2.2.2.2.2.2.2.2.2.2.2.2.2.2.2.2.2.2.2.2.2.1) (x.2.2.2.2.2.2.2.2.2.2.2.2.2.2.2.2.2.2.2.2.2.2.2.2.2.2.2.2.2.2.2.2.2.2.2.2.2.2.2.2.2.2.1) (x.2.2.2.2.2.2.2.2.2.2.2.2.2.2.2.2.2.2.2.2.2.2.2.2.2.2.2.2.2.2.2.2.2.2.2.2.2.2.2.2.2.2.2.1) (x.2.2.2.2.2.2.2.2.2.2.2.2.2.2.2.2.2.2.2.2.2.2.2.2.2.2.2.2.2.2.2.2.2.2.2.2.2.2.2.2.2.2.2.2.1) (x.2.2.2.2.2.2.2.2.2.2.2.2.2.2.2.2.2.2.2.2.2.2.2.2.2.2.2.2.2.2.2.2.2.2.2.2.2.2.2.2.2.2.2.2.2.1) (x.2.2.2.2.2.2.2.2.2.2.2.2.2.2.2.2.2.2.2.2.2.2.2.2.2.2.2.2.2.2.2.2.2.2.2.2.2.2.2.2.2.2.2.2.2.2.1) (x.2.2.2.2.2.2.2.2.2.2.2.2.2.2.2.2.2.2.2.2.2.2.2.2.2.2.2.2.2.2.2.2.2.2.2.2.2.2.2.2.2.2.2.2.2.2.2.1) (x.2.2.2.2.2.2.2.2.2.2.2.2.2.2.2.2.2.2.2.2.2.2.2.2.2.2.2.2.2.2.2.2.2.2.2.2.2.2.2.2.2.2.2.2.2.2.2.2.1) (x.2.2.2.2.2.2.2.2.2.2.2.2.2.2.2.2.2.2.2.2.2.2.2.2.2.2.2.2.2.2.2.2.2.2.2.2.2.2.2.2.2.2.2.2.2.2.2.2.2.1) (x.2.2.2.2.2.2.2.2.2.2.2.2.2.2.2.2.2.2.2.2.2.2.2.2.2.2.2.2.2.2.2.2.2.2.2.2.2.2.2.2.2.2.2.2.2.2.2.2.2.2.1) (x.2.2.2.2.2.2.2.2.2.2.2.2.2.2.2.2.2.2.2.2.2.2.2.2.2.2.2.2.2.2.2.2.2.2.2.2.2.2.2.2.2.2.2.2.2.2.2.2.2.2.2.1) (x.2.2.2.2.2.2.2.2.2.2.2.2.2.2.2.2.2.2.2.2.2.2.2.2.2.2.2.2.2.2.2.2.2.2.2.2.2.2.2.2.2.2.2.2.2.2.2.2.2.2.2.2.1) (x.2.2.2.2.2.2.2.2.2.2.2.2.2.2.2.2.2.2.2.2.2.2.2.2.2.2.2.2.2.2.2.2.2.2.2.2.2.2.2.2.2.2.2.2.2.2.2.2.2.2.2.2.2.1) (x.2.2.2.2.2.2.2.2.2.2.2.2.2.2.2.2.2.2.2.2.2.2.2.2.2.2.2.2.2.2.2.2.2.2.2.2.2.2.2.2.2.2.2.2.2.2.2.2.2.2.2.2.2.2.1) (x.2.2.2.2.2.2.2.2.2.2.2.2.2.2.2.2.2.2.2.2.2.2.2.2.2.2.2.2.2.2.2.2.2.2.2.2.2.2.2.2.2.2.2.2.2.2.2.2.2.2.2.2.2.2.2.1) (x.2.2.2.2.2.2.2.2.2.2.2.2.2.2.2.2.2.2.2.2.2.2.2.2.2.2.2.2.2.2.2.2.2.2.2.2.2.2.2.2.2.2.2.2.2.2.2.2.2.2.2.2.2.2.2.2.1) (x.2.2.2.2.2.2.2.2.2.2.2.2.2.2.2.2.2.2.2.2.2.2.2.2.2.2.2.2.2.2.2.2.2.2.2.2.2.2.2.2.2.2.2.2.2.2.2.2.2.2.2.2.2.2.2.2.2.1) (x.2.2.2.2.2.2.2.2.2.2.2.2.2.2.2.2.2.2.2.2.2.2.2.2.2.2.2.2.2.2.2.2.2.2.2.2.2.2.2.2.2.2.2.2.2.2.2.2.2.2.2.2.2.2.2.2.2.2.1) (x.2.2.2.2.2.2.2.2.2.2.2.2.2.2.2.2.2.2.2.2.2.2.2.2.2.2.2.2.2.2.2.2.2.2.2.2.2.2.2.2.2.2.2.2.2.2.2.2.2.2.2.2.2.2.2.2.2.2.2.1) (x.2.2.2.2.2.2.2.2.2.2.2.2.2.2.2.2.2.2.2.2.2.2.2.2.2.2.2.2.2.2.2.2.2.2.2.2.2.2.2.2.2.2.2.2.2.2.2.2.2.2.2.2.2.2.2.2.2.2.2.2.1) (x.2.2.2.2.2.2.2.2.2.2.2.2.2.2.2.2.2.2.2.2.2.2.2.2.2.2.2.2.2.2.2.2.2.2.2.2.2.2.2.2.2.2.2.2.2.2.2.2.2.2.2.2.2.2.2.2.2.2.2.2.2) := eps_all (ne := neX) (P := fun x => StX (x.1) (x.2.1) (x.2.2.1) (x.2.2.2.1) (x.2.2.2.2.1) (x.2.2.2.2.2.1) (x.2.2.2.2.2.2.1) (x.2.2.2.2.2.2.2.1) (x.2.2.2.2.2.2.2.2.1) (x.2.2.2.2.2.2.2.2.2.1) (x.2.2.2.2.2.2.2.2.2.2.1) (x.2.2.2.2.2.2.2.2.2.2.2.1) (x.2.2.2.2.2.2.2.2.2.2.2.2.1) (x.2.2.2.2.2.2.2.2.2.2.2.2.2.1) (x.2.2.2.2.2.2.2.2.2.2.2.2.2.2.1) (x.2.2.2.2.2.2.2.2.2.2.2.2.2.2.2.1) (x.2.2.2.2.2.2.2.2.2.2.2.2.2.2.2.2.1) (x.2.2.2.2.2.2.2.2.2.2.2.2.2.2.2.2.2.1) (x.2.2.2.2.2.2.2.2.2.2.2.2.2.2.2.2.2.2.1) (x.2.2.2.2.2.2.2.2.2.2.2.2.2.2.2.2.2.2.2.1) (x.2.2.2.2.2.2.2.2.2.2.2.2.2.2.2.2.2.2.2.2.1) (x.2.2.2.2.2.2.2.2.2.2.2.2.2.2.2.2.2.2.2.2.2.1) (x.2.2.2.2.2.2.2.2.2.2.2.2.2.2.2.2.2.2.2.2.2.2.1) (x.2.2.2.2.2.2.2.2.2.2.2.2.2.2.2.2.2.2.2.2.2.2.2.1) (x.2.2.2.2.2.2.2.2.2.2.2.2.2.2.2.2.2.2.2.2.2.2.2.2.1) (x.2.2.2.2.2.2.2.2.2.2.2.2.2.2.2.2.2.2.2.2.2.2.2.2.2.1) (x.2.2.2.2.2.2.2.2.2.2.2.2.2.2.2.2.2.2.2.2.2.2.2.2.2.2.1) (x.2.2.2.2.2.2.2.2.2.2.2.2.2.2.2.2.2.2.2.2.2.2.2.2.2.2.2.1) (x.2.2.2.2.2.2.2.2.2.2.2.2.2.2.2.2.2.2.2.2.2.2.2.2.2.2.2.2.1) (x.2.2.2.2.2.2.2.2.2.2.2.2.2.2.2.2.2.2.2.2.2.2.2.2.2.2.2.2.2.1) (x.2.2.2.2.2.2.2.2.2.2.2.2.2.2.2.2.2.2.2.2.2.2.2.2.2.2.2.2.2.2.1) (x.2.2.2.2.2.2.2.2.2.2.2.2.2.2.2.2.2.2.2.2.2.2.2.2.2.2.2.2.2.2.2.1) (x.2.2.2.2.2.2.2.2.2.2.2.2.2.2.2.2.2.2.2.2.2.2.2.2.2.2.2.2.2.2.2.2.1) (x.2.2.2.2.2.2.2.2.2.2.2.2.2.2.2.2.2.2.2.2.2.2.2.2.2.2.2.2.2.2.2.2.2.1) (x.2.2.2.2.2.2.2.2.2.2.2.2.2.2.2.2.2.2.2.2.2.2.2.2.2.2.2.2.2.2.2.2.2.2.1) (x.2.2.2.2.2.2.2.2.2.2.2.2.2.2.2.2.2.2.2.2.2.2.2.2.2.2.2.2.2.2.2.2.2.2.2.1) (x.2.2.2.2.2.2.2.2.2.2.2.2.2.2.2.2.2.2.2.2.2.2.2.2.2.2.2.2.2.2.2.2.2.2.2.2.1) (x.2.2.2.2.2.2.2.2.2.2.2.2.2.2.2.2.2.2.2.2.2.2.2.2.2.2.2.2.2.2.2.2.2.2.2.2.2.1) (x.2.2.2.2.2.2.2.2.2.2.2.2.2.2.2.2.2.2.2.2.2.2.2.2.2.2.2.2.2.2.2.2.2.2.2.2.2.2.1) (x.2.2.2.2.2.2.2.2.2.2.2.2.2.2.2.2.2.2.2.2.2.2.2.2.2.2.2.2.2.2.2.2.2.2.2.2.2.2.2.1) (x.2.2.2.2.2.2.2.2.2.2.2.2.2.2.2.2.2.2.2.2.2.2.2.2.2.2.2.2.2.2.2.2.2.2.2.2.2.2.2.2.1) (x.2.2.2.2.2.2.2.2.2.2.2.2.2.2.2.2.2.2.2.2.2.2.2.2.2.2.2.2.2.2.2.2.2.2.2.2.2.2.2.2.2.1) (x.2.2.2.2.2.2.2.2.2.2.2.2.2.2.2.2.2.2.2.2.2.2.2.2.2.2.2.2.2.2.2.2.2.2.2.2.2.2.2.2.2.2.1) (x.2.2.2.2.2.2.2.2.2.2.2.2.2.2.2.2.2.2.2.2.2.2.2.2.2.2.2.2.2.2.2.2.2.2.2.2.2.2.2.2.2.2.2.1) (x.2.2.2.2.2.2.2.2.2.2.2.2.2.2.2.2.2.2.2.2.2.2.2.2.2.2.2.2.2.2.2.2.2.2.2.2.2.2.2.2.2.2.2.2.1) (x.2.2.2.2.2.2.2.2.2.2.2.2.2.2.2.2.2.2.2.2.2.2.2.2.2.2.2.2.2.2.2.2.2.2.2.2.2.2.2.2.2.2.2.2.2.1) (x.2.2.2.2.2.2.2.2.2.2.2.2.2.2.2.2.2.2.2.2.2.2.2.2.2.2.2.2.2.2.2.2.2.2.2.2.2.2.2.2.2.2.2.2.2.2.1) (x.2.2.2.2.2.2.2.2.2.2.2.2.2.2.2.2.2.2.2.2.2.2.2.2.2.2.2.2.2.2.2.2.2.2.2.2.2.2.2.2.2.2.2.2.2.2.2.1) (x.2.2.2.2.2.2.2.2.2.2.2.2.2.2.2.2.2.2.2.2.2.2.2.2.2.2.2.2.2.2.2.2.2.2.2.2.2.2.2.2.2.2.2.2.2.2.2.2.1) (x.2.2.2.2.2.2.2.2.2.2.2.2.2.2.2.2.2.2.2.2.2.2.2.2.2.2.2.2.2.2.2.2.2.2.2.2.2.2.2.2.2.2.2.2.2.2.2.2.2.1) (x.2.2.2.2.2.2.2.2.2.2.2.2.2.2.2.2.2.2.2.2.2.2.2.2.2.2.2.2.2.2.2.2.2.2.2.2.2.2.2.2.2.2.2.2.2.2.2.2.2.2.1) (x.2.2.2.2.2.2.2.2.2.2.2.2.2.2.2.2.2.2.2.2.2.2.2.2.2.2.2.2.2.2.2.2.2.2.2.2.2.2.2.2.2.2.2.2.2.2.2.2.2.2.2.1) (x.2.2.2.2.2.2.2.2.2.2.2.2.2.2.2.2.2.2.2.2.2.2.2.2.2.2.2.2.2.2.2.2.2.2.2.2.2.2.2.2.2.2.2.2.2.2.2.2.2.2.2.2.1) (x.2.2.2.2.2.2.2.2.2.2.2.2.2.2.2.2.2.2.2.2.2.2.2.2.2.2.2.2.2.2.2.2.2.2.2.2.2.2.2.2.2.2.2.2.2.2.2.2.2.2.2.2.2.1) (x.2.2.2.2.2.2.2.2.2.2.2.2.2.2.2.2.2.2.2.2.2.2.2.2.2.2.2.2.2.2.2.2.2.2.2.2.2.2.2.2.2.2.2.2.2.2.2.2.2.2.2.2.2.2.1) (x.2.2.2.2.2.2.2.2.2.2.2.2.2.2.2.2.2.2.2.2.2.2.2.2.2.2.2.2.2.2.2.2.2.2.2.2.2.2.2.2.2.2.2.2.2.2.2.2.2.2.2.2.2.2.2.1) (x.2.2.2.2.2.2.2.2.2.2.2.2.2.2.2.2.2.2.2.2.2.2.2.2.2.2.2.2.2.2.2.2.2.2.2.2.2.2.2.2.2.2.2.2.2.2.2.2.2.2.2.2.2.2.2.2.1) (x.2.2.2.2.2.2.2.2.2.2.2.2.2.2.2.2.2.2.2.2.2.2.2.2.2.2.2.2.2.2.2.2.2.2.2.2.2.2.2.2.2.2.2.2.2.2.2.2.2.2.2.2.2.2.2.2.2.1) (x.2.2.2.2.2.2.2.2.2.2.2.2.2.2.2.2.2.2.2.2.2.2.2.2.2.2.2.2.2.2.2.2.2.2.2.2.2.2.2.2.2.2.2.2.2.2.2.2.2.2.2.2.2.2.2.2.2.2.1) (x.2.2.2.2.2.2.2.2.2.2.2.2.2.2.2.2.2.2.2.2.2.2.2.2.2.2.2.2.2.2.2.2.2.2.2.2.2.2.2.2.2.2.2.2.2.2.2.2.2.2.2.2.2.2.2.2.2.2.2.1) (x.2.2.2.2.2.2.2.2.2.2.2.2.2.2.2.2.2.2.2.2.2.2.2.2.2.2.2.2.2.2.2.2.2.2.2.2.2.2.2.2.2.2.2.2.2.2.2.2.2.2.2.2.2.2.2.2.2.2.2.2.1) (x.2.2.2.2.2.2.2.2.2.2.2.2.2.2.2.2.2.2.2.2.2.2.2.2.2.2.2.2.2.2.2.2.2.2.2.2.2.2.2.2.2.2.2.2.2.2.2.2.2.2.2.2.2.2.2.2.2.2.2.2.2)) (by with_unfolding_all exact core) x
end C_law_listed
theorem law_listed {w : World}
  {p : Program}
  {loose : List PySem.Str}
  {mean : ExcName → Option Value}
  {mg mb : PySem.Str → Option Value}
  {o : OwnA}
  {plan : List (List Int)}
  {bl : List Bool}
  {n : Nat}
  (OW : OwnOk w o plan bl n)
  (hvp : o.vp.length = n)
  {dp un : Nat}
  {gd : Option (List Code)}
  {a : Addr}
  {outer : List Env}
  {A₀ : Around}
  {base h₀ : Heap}
  {L : Addr}
  {m : PySem.Str → Option Value}
  {s : Shared}
  {Q : Flow → Shared → Prop}
  {E : Value → Shared → Prop}
  {cT cO cLt cH cE cP cC cM cJ : Addr}
  {oT oO oLt oH oE oP oC oM : Obj}
  {jl Dj Pe : Addr}
  {tm tkc : Tok}
  {oJ : Obj}
  {c : Int}
  {n1 n2 : Nat}
  {ws : List Value}
  {ns : List Int}
  {cE' c6 : Nat}
  {vh2 vd vf pes : List Value}
  {q : Nat → Addr}
  {cq : Nat → Nat}
  {pv : Nat → List Value}
  {S : S}
  {es : List Int}
  {R : List (Addr × Obj)}
  (B : Below A₀ base outer h₀)
  (F : Fr h₀ L s.heap m)
  (X : (hd.heap_1 w.params).In h₀)
  (T : Top p loose mean mg mb h₀)
  (CH : CodeHd h₀ 429 427)
  (N : News h₀ L s.heap ((jl, listOf #[.ref Dj, .int c tkc] n1) :: ([(cT, oT), (cO, oO), (cLt, oLt), (cH, oH), (cE, oE), (cP, oP), (cC, oC), (cM, oM), (427, tabObj #[]), (cJ, oJ), (Dj, listOf ws.toArray n2)] ++ R)))
  (d1 : oT.data = .cell none)
  (d2 : oO.data = .cell (some (.ref o.od)))
  (d3 : oLt.data = .cell none)
  (d4 : oH.data = .cell none)
  (d5 : oE.data = .cell none)
  (d6 : oP.data = .cell none)
  (d7 : oC.data = .cell none)
  (d8 : oM.data = .cell (some (.int (n : Int) tm)))
  (d9 : oJ.data = .cell (some (.ref jl)))
  (hws : IntsAre ws ns)
  (hns : ns.length ≤ 40)
  (c0 : 0 ≤ c)
  (c1 : c < 100)
  (hDj : @LT.lt Nat _ Dj jl)
  (hDc : @LT.lt Nat _ cT Dj)
  (hRj : ∀ p ∈ R, p.1 ≠ jl)
  (k0 : @LT.lt Nat _ 427 L)
  (k1 : @LT.lt Nat _ L cJ)
  (k2 : @LT.lt Nat _ cJ cM)
  (k3 : @LT.lt Nat _ cM cC)
  (k4 : @LT.lt Nat _ cC cP)
  (k5 : @LT.lt Nat _ cP cE)
  (k6 : @LT.lt Nat _ cE cH)
  (k7 : @LT.lt Nat _ cH cLt)
  (k8 : @LT.lt Nat _ cLt cO)
  (k9 : @LT.lt Nat _ cO cT)
  (hR : ∀ p ∈ R, p.1 ∉ [cT, cO, cLt, cH, cE, cP, cC, cM, 427])
  (r7 : ∀ p ∈ o.ex vh2 vd vf [] c6, p ∈ R)
  (r8 : ∀ j, j < n → (q j, listOf (pv j).toArray (cq j)) ∈ R)
  (r10 : (Pe, listOf pes.toArray cE') ∈ R)
  (hq : ∀ j, j < n → q j ∉ o.adr ∧ @Ne Nat Pe (q j))
  (hPo : Pe ∉ o.adr)
  (items : ∀ j, j < n → o.vp[j]? = some (.ref (q j)) ∧ IntsAre (pv j) (plan.getD j []))
  (g1 : S.held = List.replicate n true)
  (g3 : BoolsAre vh2 S.held)
  (g4 : BoolsAre vd S.done)
  (g5 : BoolsAre vf S.freed)
  (g6 : S.log = [])
  (gl : S.Len n)
  (hS0 : ∀ j, j < n → S.held.getD j false = true ∧ S.done.getD j false = false ∧ S.freed.getD j false = false)
  (hpe : m (PySem.Str.ofString "early") = some (.ref Pe))
  (hes : IntsAre pes es)
  (hine : ∀ q ∈ es, 0 ≤ q ∧ q < (n : Int))
  (hn0 : 0 < n)
  (hd : dp + 60 < recursionLimit)
  (hu : un + 600 < cLine)
  (ret : ∀ h' tk' m', Fr h₀ L h' m' → GrownAt 427 h' → Q (.ret (.bool true)) { s with heap := h', toks := tk' }) : wpAny (model Pr w) (ktrTop dp un gd (PySem.Str.ofString "law") lawScope L a (.ref 429) (lawClA cT cO cLt cH cE cP cC cM cJ) outer) (execs (lawRest 5) (envX (PySem.Str.ofString "law") lawScope L a (.ref 429) (lawClA cT cO cLt cH cE cP cC cM cJ))) Q E s :=
  C_law_listed.all (w, p, loose, mean, mg, mb, o, plan, bl, n, dp, un, gd, a, outer, A₀, base, h₀, L, m, s, Q, E, cT, cO, cLt, cH, cE, cP, cC, cM, cJ, oT, oO, oLt, oH, oE, oP, oC, oM, jl, Dj, Pe, tm, tkc, oJ, c, n1, n2, ws, ns, cE', c6, vh2, vd, vf, pes, q, cq, pv, es, R) S OW hvp B F X T CH N d1 d2 d3 d4 d5 d6 d7 d8 d9 hws hns c0 c1 hDj hDc hRj k0 k1 k2 k3 k4 k5 k6 k7 k8 k9 hR r7 r8 r10 hq hPo items g1 g3 g4 g5 g6 gl hS0 hpe hes hine hn0 hd hu ret
end Mine
end
theorem Mine.rs_LawMk4 : True := by
  w_top off
  trivial
section
open PySem PySem.W PyProof.Rows PySem.Calls LSm
namespace Mine
local macro_rules | `(tactic| k_lt $h:ident) => `(tactic| skip)
namespace C_law_mk4
noncomputable abbrev XX : Type := (World) × (Program) × (List PySem.Str) × (ExcName → Option Value) × (PySem.Str → Option Value) × (PySem.Str → Option Value) × (OwnA) × (List (List Int)) × (List Bool) × (Nat) × (Nat) × (Nat) × (Option (List Code)) × (Addr) × (List Env) × (Around) × (Heap) × (Heap) × (Addr) × (PySem.Str → Option Value) × (Shared) × (Flow → Shared → Prop) × (Value → Shared → Prop) × (Addr) × (Addr) × (Addr) × (Addr) × (Addr) × (Addr) × (Addr) × (Addr) × (Addr) × (Obj) × (Obj) × (Obj) × (Obj) × (Obj) × (Obj) × (Obj) × (Obj) × (Addr) × (Addr) × (Tok) × (Tok) × (Obj) × (Int) × (Nat) × (Nat) × (List Value) × (List Int) × (Nat) × (List Value) × (List Value) × (List Value) × (Nat → Addr) × (Nat → Nat) × (Nat → List Value) × (List (Addr × Obj))
noncomputable def StX (w : World) (p : Program) (loose : List PySem.Str) (mean : ExcName → Option Value) (mg : PySem.Str → Option Value) (mb : PySem.Str → Option Value) (o : OwnA) (plan : List (List Int)) (bl : List Bool) (n : Nat) (dp : Nat) (un : Nat) (gd : Option (List Code)) (a : Addr) (outer : List Env) (A₀ : Around) (base : Heap) (h₀ : Heap) (L : Addr) (m : PySem.Str → Option Value) (s : Shared) (Q : Flow → Shared → Prop) (E : Value → Shared → Prop) (cT : Addr) (cO : Addr) (cLt : Addr) (cH : Addr) (cE : Addr) (cP : Addr) (cC : Addr) (cM : Addr) (cJ : Addr) (oT : Obj) (oO : Obj) (oLt : Obj) (oH : Obj) (oE : Obj) (oP : Obj) (oC : Obj) (oM : Obj) (jl : Addr) (Dj : Addr) (tm : Tok) (tkc : Tok) (oJ : Obj) (c : Int) (n1 : Nat) (n2 : Nat) (ws : List Value) (ns : List Int) (c6 : Nat) (vh2 : List Value) (vd : List Value) (vf : List Value) (q : Nat → Addr) (cq : Nat → Nat) (pv : Nat → List Value) (R : List (Addr × Obj)) : Prop :=
  ∀ (S : S) (OW : OwnOk w o plan bl n) (hvp : o.vp.length = n) (B : Below A₀ base outer h₀) (F : Fr h₀ L s.heap m) (X : (hd.heap_1 w.params).In h₀) (T : Top p loose mean mg mb h₀) (CH : CodeHd h₀ 429 427) (N : News h₀ L s.heap ((jl, listOf #[.ref Dj, .int c tkc] n1) :: ([(cT, oT), (cO, oO), (cLt, oLt), (cH, oH), (cE, oE), (cP, oP), (cC, oC), (cM, oM), (427, tabObj #[]), (cJ, oJ), (Dj, listOf ws.toArray n2)] ++ R))) (d1 : oT.data = .cell none) (d2 : oO.data = .cell (some (.ref o.od))) (d3 : oLt.data = .cell none) (d4 : oH.data = .cell none) (d5 : oE.data = .cell none) (d6 : oP.data = .cell none) (d7 : oC.data = .cell none) (d8 : oM.data = .cell (some (.int (n : Int) tm))) (d9 : oJ.data = .cell (some (.ref jl))) (hws : IntsAre ws ns) (hns : ns.length ≤ 40) (c0 : 0 ≤ c) (c1 : c < 90) (hDj : @LT.lt Nat _ Dj jl) (hDc : @LT.lt Nat _ cT Dj) (hRj : ∀ p ∈ R, p.1 ≠ jl) (k0 : @LT.lt Nat _ 427 L) (k1 : @LT.lt Nat _ L cJ) (k2 : @LT.lt Nat _ cJ cM) (k3 : @LT.lt Nat _ cM cC) (k4 : @LT.lt Nat _ cC cP) (k5 : @LT.lt Nat _ cP cE) (k6 : @LT.lt Nat _ cE cH) (k7 : @LT.lt Nat _ cH cLt) (k8 : @LT.lt Nat _ cLt cO) (k9 : @LT.lt Nat _ cO cT) (hR : ∀ p ∈ R, p.1 ∉ [cT, cO, cLt, cH, cE, cP, cC, cM, 427]) (r7 : ∀ p ∈ o.ex vh2 vd vf [] c6, p ∈ R) (r8 : ∀ j, j < n → (q j, listOf (pv j).toArray (cq j)) ∈ R) (hq : ∀ j, j < n → q j ∉ o.adr) (items : ∀ j, j < n → o.vp[j]? = some (.ref (q j)) ∧ IntsAre (pv j) (plan.getD j [])) (g1 : S.held = List.replicate n true) (g3 : BoolsAre vh2 S.held) (g4 : BoolsAre vd S.done) (g5 : BoolsAre vf S.freed) (g6 : S.log = []) (gl : S.Len n) (hS0 : ∀ j, j < n → S.held.getD j false = true ∧ S.done.getD j false = false ∧ S.freed.getD j false = false) (hn0 : 0 < n) (hd : dp + 60 < recursionLimit) (hu : un + 600 < cLine) (ret : ∀ h' tk' m', Fr h₀ L h' m' → GrownAt 427 h' → Q (.ret (.bool true)) { s with heap := h', toks := tk' }), wpAny (model Pr w) (ktrTop dp un gd (PySem.Str.ofString "law") lawScope L a (.ref 429) (lawClA cT cO cLt cH cE cP cC cM cJ) outer) (execs (lawRest 4) (envX (PySem.Str.ofString "law") lawScope L a (.ref 429) (lawClA cT cO cLt cH cE cP cC cM cJ))) Q E s
theorem neX : Nonempty XX := by
  refine ⟨?_⟩
  repeat' (first | exact default | exact aWorld 1 | constructor | intro _)
noncomputable def cX : XX := @Classical.epsilon XX neX fun x => ¬ StX (x.1) (x.2.1) (x.2.2.1) (x.2.2.2.1) (x.2.2.2.2.1) (x.2.2.2.2.2.1) (x.2.2.2.2.2.2.1) (x.2.2.2.2.2.2.2.1) (x.2.2.2.2.2.2.2.2.1) (x.2.2.2.2.2.2.2.2.2.1) (x.2.2.2.2.2.2.2.2.2.2.1) (x.2.2.2.2.2.2.2.2.2.2.2.1) (x.2.2.2.2.2.2.2.2.2.2.2.2.1) (x.2.2.2.2.2.2.2.2.2.2.2.2.2.1) (x.2.2.2.2.2.2.2.2.2.2.2.2.2.2.1) (x.2.2.2.2.2.2.2.2.2.2.2.2.2.2.2.1) (x.2.2.2.2.2.2.2.2.2.2.2.2.2.2.2.2.1) (x.2.2.2.2.2.2.2.2.2.2.2.2.2.2.2.2.2.1) (x.2.2.2.2.2.2.2.2.2.2.2.2.2.2.2.2.2.2.1) (x.2.2.2.2.2.2.2.2.2.2.2.2.2.2.2.2.2.2.2.1) (x.2.2.2.2.2.2.2.2.2.2.2.2.2.2.2.2.2.2.2.2.1) (x.2.2.2.2.2.2.2.2.2.2.2.2.2.2.2.2.2.2.2.2.2.1) (x.2.2.2.2.2.2.2.2.2.2.2.2.2.2.2.2.2.2.2.2.2.2.1) (x.2.2.2.2.2.2.2.2.2.2.2.2.2.2.2.2.2.2.2.2.2.2.2.1) (x.2.2.2.2.2.2.2.2.2.2.2.2.2.2.2.2.2.2.2.2.2.2.2.2.1) (x.2.2.2.2.2.2.2.2.2.2.2.2.2.2.2.2.2.2.2.2.2.2.2.2.2.1) (x.2.2.2.2.2.2.2.2.2.2.2.2.2.2.2.2.2.2.2.2.2.2.2.2.2.2.1) (x.2.2.2.2.2.2.2.2.2.2.2.2.2.2.2.2.2.2.2.2.2.2.2.2.2.2.2.1) (x.2.2.2.2.2.2.2.2.2.2.2.2.2.2.2.2.2.2.2.2.2.2.2.2.2.2.2.2.1) (x.2.2.2.2.2.2.2.2.2.2.2.2.2.2.2.2.2.2.2.2.2.2.2.2.2.2.2.2.2.1) (x.2.2.2.2.2.2.2.2.2.2.2.2.2.2.2.2.2.2.2.2.2.2.2.2.2.2.2.2.2.2.1) (x.2.2.2.2.2.2.2.2.2.2.2.2.2.2.2.2.2.2.2.2.2.2.2.2.2.2.2.2.2.2.2.1) (x.2.2.2.2.2.2.2.2.2.2.2.2.2.2.2.2.2.2.2.2.2.2.2.2.2.2.2.2.2.2.2.2.1) (x.2.2.2.2.2.2.2.2.2.2.2.2.2.2.2.2.2.2.2.2.2.2.2.2.2.2.2.2.2.2.2.2.2.1) (x.2.2.2.2.2.2.2.2.2.2.2.2.2.2.2.2.2.2.2.2.2.2.2.2.2.2.2.2.2.2.2.2.2.2.1) (x.2.2.2.2.2.2.2.2.2.2.2.2.2.2.2.2.2.2.2.2.2.2.2.2.2.2.2.2.2.2.2.2.2.2.2.1) (x.2.2.2.2.2.2.2.2.2.2.2.2.2.2.2.2.2.2.2.2.2.2.2.2.2.2.2.2.2.2.2.2.2.2.2.2.1) (x.2.2.2.2.2.2.2.2.2.2.2.2.2.2.2.2.2.2.2.2.2.2.2.2.2.2.2.2.2.2.2.2.2.2.2.2.2.1) (x.2.2.2.2.2.2.2.2.2.2.2.2.2.2.2.2.2.2.2.2.2.2.2.2.2.2.2.2.2.2.2.2.2.2.2.2.2.2.1) (x.2.2.2.2.2.2.2.2.2.2.2.2.2.2.2.2.2.2.2.2.2.2.2.2.2.2.2.2.2.2.2.2.2.2.2.2.2.2.2.1) (x.2.2.2.2.2.2.2.2.2.2.2.2.2.2.2.2.2.2.2.2.2.2.2.2.2.2.2.2.2.2.2.2.2.2.2.2.2.2.2.2.1) (x.2.2.2.2.2.2.2.2.2.2.2.2.2.2.2.2.2.2.2.2.2.2.2.2.2.2.2.2.2.2.2.2.2.2.2.2.2.2.2.2.2.1) (x.2.2.2.2.2.2.2.2.2.2.2.2.2.2.2.2.2.2.2.2.2.2.2.2.2.2.2.2.2.2.2.2.2.2.2.2.2.2.2.2.2.2.1) (x.2.2.2.2.2.2.2.2.2.2.2.2.2.2.2.2.2.2.2.2.2.2.2.2.2.2.2.2.2.2.2.2.2.2.2.2.2.2.2.2.2.2.2.1) (x.2.2.2.2.2.2.2.2.2.2.2.2.2.2.2.2.2.2.2.2.2.2.2.2.2.2.2.2.2.2.2.2.2.2.2.2.2.2.2.2.2.2.2.2.1) (x.2.2.2.2.2.2.2.2.2.2.2.2.2.2.2.2.2.2.2.2.2.2.2.2.2.2.2.2.2.2.2.2.2.2.2.2.2.2.2.2.2.2.2.2.2.1) (x.2.2.2.2.2.2.2.2.2.2.2.2.2.2.2.2.2.2.2.2.2.2.2.2.2.2.2.2.2.2.2.2.2.2.2.2.2.2.2.2.2.2.2.2.2.2.1) (x.2.2.2.2.2.2.2.2.2.2.2.2.2.2.2.2.2.2.2.2.2.2.2.2.2.2.2.2.2.2.2.2.2.2.2.2.2.2.2.2.2.2.2.2.2.2.2.1) (x.2.2.2.2.2.2.2.2.2.2.2.2.2.2.2.2.2.2.2.2.2.2.2.2.2.2.2.2.2.2.2.2.2.2.2.2.2.2.2.2.2.2.2.2.2.2.2.2.1) (x.2.2.2.2.2.2.2.2.2.2.2.2.2.2.2.2.2.2.2.2.2.2.2.2.2.2.2.2.2.2.2.2.2.2.2.2.2.2.2.2.2.2.2.2.2.2.2.2.2.1) (x.2.2.2.2.2.2.2.2.2.2.2.2.2.2.2.2.2.2.2.2.2.2.2.2.2.2.2.2.2.2.2.2.2.2.2.2.2.2.2.2.2.2.2.2.2.2.2.2.2.2.1) (x.2.2.2.2.2.2.2.2.2.2.2.2.2.2.2.2.2.2.2.2.2.2.2.2.2.2.2.2.2.2.2.2.2.2.2.2.2.2.2.2.2.2.2.2.2.2.2.2.2.2.2.1) (x.2.2.2.2.2.2.2.2.2.2.2.2.2.2.2.2.2.2.2.2.2.2.2.2.2.2.2.2.2.2.2.2.2.2.2.2.2.2.2.2.2.2.2.2.2.2.2.2.2.2.2.2.1) (x.2.2.2.2.2.2.2.2.2.2.2.2.2.2.2.2.2.2.2.2.2.2.2.2.2.2.2.2.2.2.2.2.2.2.2.2.2.2.2.2.2.2.2.2.2.2.2.2.2.2.2.2.2.1) (x.2.2.2.2.2.2.2.2.2.2.2.2.2.2.2.2.2.2.2.2.2.2.2.2.2.2.2.2.2.2.2.2.2.2.2.2.2.2.2.2.2.2.2.2.2.2.2.2.2.2.2.2.2.2.1) (x.2.2.2.2.2.2.2.2.2.2.2.2.2.2.2.2.2.2.2.2.2.2.2.2.2.2.2.2.2.2.2.2.2.2.2.2.2.2.2.2.2.2.2.2.2.2.2.2.2.2.2.2.2.2.2.1) (x.2.2.2.2.2.2.2.2.2.2.2.2.2.2.2.2.2.2.2.2.2.2.2.2.2.2.2.2.2.2.2.2.2.2.2.2.2.2.2.2.2.2.2.2.2.2.2.2.2.2.2.2.2.2.2.2.1) (x.2.2.2.2.2.2.2.2.2.2.2.2.2.2.2.2.2.2.2.2.2.2.2.2.2.2.2.2.2.2.2.2.2.2.2.2.2.2.2.2.2.2.2.2.2.2.2.2.2.2.2.2.2.2.2.2.2)
@[irreducible] noncomputable def w := cX.1
@[irreducible] noncomputable def p := cX.2.1
@[irreducible] noncomputable def loose := cX.2.2.1
@[irreducible] noncomputable def mean := cX.2.2.2.1
@[irreducible] noncomputable def mg := cX.2.2.2.2.1
@[irreducible] noncomputable def mb := cX.2.2.2.2.2.1
@[irreducible] noncomputable def o := cX.2.2.2.2.2.2.1
@[irreducible] noncomputable def plan := cX.2.2.2.2.2.2.2.1
@[irreducible] noncomputable def bl := cX.2.2.2.2.2.2.2.2.1
@[irreducible] noncomputable def n := cX.2.2.2.2.2.2.2.2.2.1
@[irreducible] noncomputable def dp := cX.2.2.2.2.2.2.2.2.2.2.1
@[irreducible] noncomputable def un := cX.2.2.2.2.2.2.2.2.2.2.2.1
@[irreducible] noncomputable def gd := cX.2.2.2.2.2.2.2.2.2.2.2.2.1
@[irreducible] noncomputable def a := cX.2.2.2.2.2.2.2.2.2.2.2.2.2.1
@[irreducible] noncomputable def outer := cX.2.2.2.2.2.2.2.2.2.2.2.2.2.2.1
@[irreducible] noncomputable def A₀ := cX.2.2.2.2.2.2.2.2.2.2.2.2.2.2.2.1
@[irreducible] noncomputable def base := cX.2.2.2.2.2.2.2.2.2.2.2.2.2.2.2.2.1
@[irreducible] noncomputable def h₀ := cX.2.2.2.2.2.2.2.2.2.2.2.2.2.2.2.2.2.1
@[irreducible] noncomputable def L := cX.2.2.2.2.2.2.2.2.2.2.2.2.2.2.2.2.2.2.1
@[irreducible] noncomputable def m := cX.2.2.2.2.2.2.2.2.2.2.2.2.2.2.2.2.2.2.2.1
@[irreducible] noncomputable def s := cX.2.2.2.2.2.2.2.2.2.2.2.2.2.2.2.2.2.2.2.2.1
@[irreducible] noncomputable def Q := cX.2.2.2.2.2.2.2.2.2.2.2.2.2.2.2.2.2.2.2.2.2.1
@[irreducible] noncomputable def E := cX.2.2.2.2.2.2.2.2.2.2.2.2.2.2.2.2.2.2.2.2.2.2.1
@[irreducible] noncomputable def cT := cX.2.2.2.2.2.2.2.2.2.2.2.2.2.2.2.2.2.2.2.2.2.2.2.1
@[irreducible] noncomputable def cO := cX.2.2.2.2.2.2.2.2.2.2.2.2.2.2.2.2.2.2.2.2.2.2.2.2.1
@[irreducible] noncomputable def cLt := cX.2.2.2.2.2.2.2.2.2.2.2.2.2.2.2.2.2.2.2.2.2.2.2.2.2.1
@[irreducible] noncomputable def cH := cX.2.2.2.2.2.2.2.2.2.2.2.2.2.2.2.2.2.2.2.2.2.2.2.2.2.2.1
@[irreducible] noncomputable def cE := cX.2.2.2.2.2.2.2.2.2.2.2.2.2.2.2.2.2.2.2.2.2.2.2.2.2.2.2.1
@[irreducible] noncomputable def cP := cX.2.2.2.2.2.2.2.2.2.2.2.2.2.2.2.2.2.2.2.2.2.2.2.2.2.2.2.2.1
@[irreducible] noncomputable def cC := cX.2.2.2.2.2.2.2.2.2.2.2.2.2.2.2.2.2.2.2.2.2.2.2.2.2.2.2.2.2.1
@[irreducible] noncomputable def cM := cX.2.2.2.2.2.2.2.2.2.2.2.2.2.2.2.2.2.2.2.2.2.2.2.2.2.2.2.2.2.2.1
@[irreducible] noncomputable def cJ := cX.2.2.2.2.2.2.2.2.2.2.2.2.2.2.2.2.2.2.2.2.2.2.2.2.2.2.2.2.2.2.2.1
@[irreducible] noncomputable def oT := cX.2.2.2.2.2.2.2.2.2.2.2.2.2.2.2.2.2.2.2.2.2.2.2.2.2.2.2.2.2.2.2.2.1
@[irreducible] noncomputable def oO := cX.2.2.2.2.2.2.2.2.2.2.2.2.2.2.2.2.2.2.2.2.2.2.2.2.2.2.2.2.2.2.2.2.2.1
@[irreducible] noncomputable def oLt := cX.2.2.2.2.2.2.2.2.2.2.2.2.2.2.2.2.2.2.2.2.2.2.2.2.2.2.2.2.2.2.2.2.2.2.1
@[irreducible] noncomputable def oH := cX.2.2.2.2.2.2.2.2.2.2.2.2.2.2.2.2.2.2.2.2.2.2.2.2.2.2.2.2.2.2.2.2.2.2.2.1
@[irreducible] noncomputable def oE := cX.2.2.2.2.2.2.2.2.2.2.2.2.2.2.2.2.2.2.2.2.2.2.2.2.2.2.2.2.2.2.2.2.2.2.2.2.1
@[irreducible] noncomputable def oP := cX.2.2.2.2.2.2.2.2.2.2.2.2.2.2.2.2.2.2.2.2.2.2.2.2.2.2.2.2.2.2.2.2.2.2.2.2.2.1
@[irreducible] noncomputable def oC := cX.2.2.2.2.2.2.2.2.2.2.2.2.2.2.2.2.2.2.2.2.2.2.2.2.2.2.2.2.2.2.2.2.2.2.2.2.2.2.1
@[irreducible] noncomputable def oM := cX.2.2.2.2.2.2.2.2.2.2.2.2.2.2.2.2.2.2.2.2.2.2.2.2.2.2.2.2.2.2.2.2.2.2.2.2.2.2.2.1
@[irreducible] noncomputable def jl := cX.2.2.2.2.2.2.2.2.2.2.2.2.2.2.2.2.2.2.2.2.2.2.2.2.2.2.2.2.2.2.2.2.2.2.2.2.2.2.2.2.1
@[irreducible] noncomputable def Dj := cX.2.2.2.2.2.2.2.2.2.2.2.2.2.2.2.2.2.2.2.2.2.2.2.2.2.2.2.2.2.2.2.2.2.2.2.2.2.2.2.2.2.1
@[irreducible] noncomputable def tm := cX.2.2.2.2.2.2.2.2.2.2.2.2.2.2.2.2.2.2.2.2.2.2.2.2.2.2.2.2.2.2.2.2.2.2.2.2.2.2.2.2.2.2.1
@[irreducible] noncomputable def tkc := cX.2.2.2.2.2.2.2.2.2.2.2.2.2.2.2.2.2.2.2.2.2.2.2.2.2.2.2.2.2.2.2.2.2.2.2.2.2.2.2.2.2.2.2.1
@[irreducible] noncomputable def oJ := cX.2.2.2.2.2.2.2.2.2.2.2.2.2.2.2.2.2.2.2.2.2.2.2.2.2.2.2.2.2.2.2.2.2.2.2.2.2.2.2.2.2.2.2.2.1
@[irreducible] noncomputable def c := cX.2.2.2.2.2.2.2.2.2.2.2.2.2.2.2.2.2.2.2.2.2.2.2.2.2.2.2.2.2.2.2.2.2.2.2.2.2.2.2.2.2.2.2.2.2.1
@[irreducible] noncomputable def n1 := cX.2.2.2.2.2.2.2.2.2.2.2.2.2.2.2.2.2.2.2.2.2.2.2.2.2.2.2.2.2.2.2.2.2.2.2.2.2.2.2.2.2.2.2.2.2.2.1
@[irreducible] noncomputable def n2 := cX.2.2.2.2.2.2.2.2.2.2.2.2.2.2.2.2.2.2.2.2.2.2.2.2.2.2.2.2.2.2.2.2.2.2.2.2.2.2.2.2.2.2.2.2.2.2.2.1
@[irreducible] noncomputable def ws := cX.2.2.2.2.2.2.2.2.2.2.2.2.2.2.2.2.2.2.2.2.2.2.2.2.2.2.2.2.2.2.2.2.2.2.2.2.2.2.2.2.2.2.2.2.2.2.2.2.1
@[irreducible] noncomputable def ns := cX.2.2.2.2.2.2.2.2.2.2.2.2.2.2.2.2.2.2.2.2.2.2.2.2.2.2.2.2.2.2.2.2.2.2.2.2.2.2.2.2.2.2.2.2.2.2.2.2.2.1
@[irreducible] noncomputable def c6 := cX.2.2.2.2.2.2.2.2.2.2.2.2.2.2.2.2.2.2.2.2.2.2.2.2.2.2.2.2.2.2.2.2.2.2.2.2.2.2.2.2.2.2.2.2.2.2.2.2.2.2.1
@[irreducible] noncomputable def vh2 := cX.2.2.2.2.2.2.2.2.2.2.2.2.2.2.2.2.2.2.2.2.2.2.2.2.2.2.2.2.2.2.2.2.2.2.2.2.2.2.2.2.2.2.2.2.2.2.2.2.2.2.2.1
@[irreducible] noncomputable def vd := cX.2.2.2.2.2.2.2.2.2.2.2.2.2.2.2.2.2.2.2.2.2.2.2.2.2.2.2.2.2.2.2.2.2.2.2.2.2.2.2.2.2.2.2.2.2.2.2.2.2.2.2.2.1
@[irreducible] noncomputable def vf := cX.2.2.2.2.2.2.2.2.2.2.2.2.2.2.2.2.2.2.2.2.2.2.2.2.2.2.2.2.2.2.2.2.2.2.2.2.2.2.2.2.2.2.2.2.2.2.2.2.2.2.2.2.2.1
@[irreducible] noncomputable def q := cX.2.2.2.2.2.2.2.2.2.2.2.2.2.2.2.2.2.2.2.2.2.2.2.2.2.2.2.2.2.2.2.2.2.2.2.2.2.2.2.2.2.2.2.2.2.2.2.2.2.2.2.2.2.2.1
@[irreducible] noncomputable def cq := cX.2.2.2.2.2.2.2.2.2.2.2.2.2.2.2.2.2.2.2.2.2.2.2.2.2.2.2.2.2.2.2.2.2.2.2.2.2.2.2.2.2.2.2.2.2.2.2.2.2.2.2.2.2.2.2.1
@[irreducible] noncomputable def pv := cX.2.2.2.2.2.2.2.2.2.2.2.2.2.2.2.2.2.2.2.2.2.2.2.2.2.2.2.2.2.2.2.2.2.2.2.2.2.2.2.2.2.2.2.2.2.2.2.2.2.2.2.2.2.2.2.2.1
@[irreducible] noncomputable def R := cX.2.2.2.2.2.2.2.2.2.2.2.2.2.2.2.2.2.2.2.2.2.2.2.2.2.2.2.2.2.2.2.2.2.2.2.2.2.2.2.2.2.2.2.2.2.2.2.2.2.2.2.2.2.2.2.2.2
theorem core : StX w p loose mean mg mb o plan bl n dp un gd a outer A₀ base h₀ L m s Q E cT cO cLt cH cE cP cC cM cJ oT oO oLt oH oE oP oC oM jl Dj tm tkc oJ c n1 n2 ws ns c6 vh2 vd vf q cq pv R := by
  unfold StX
  intro S OW hvp B F X T CH N d1 d2 d3 d4 d5 d6 d7 d8 d9 hws hns c0 c1 hDj hDc hRj k0 k1 k2 k3 k4 k5 k6 k7 k8 k9 hR r7 r8 hq items g1 g3 g4 g5 g6 gl hS0 hn0 hd hu ret
  unfold Pr
  refine wpAny_noRaise ?_
  rw [show lawRest 4 = _ :: lawRest 5 from rfl]
  rw [show lawScope = { kind := _, names := _, isGenerator := _, isCoroutine := _, more := _ } from rfl]
  revert X; k_fill; intro X
  have hn5 := OW.small
  have ecM := d8
  have ecJ := d9
  have hCj : ∀ p ∈ [(cT, oT), (cO, oO), (cLt, oLt), (cH, oH), (cE, oE), (cP, oP), (cC, oC), (cM, oM), (427, tabObj #[]), (cJ, oJ), (Dj, listOf ws.toArray n2)] ++ R, p.1 ≠ jl := fun p hp => by
    rcases List.mem_append.mp hp with hp | hp
    · replace hp := mem_ors hp
      rcases hp with rfl | rfl | rfl | rfl | rfl | rfl | rfl | rfl | rfl | rfl | rfl <;> (show ¬ @Eq Nat _ _) <;> omega
    · exact hRj p hp
  have go : ∀ (Pe : Addr) (pes : List Value) (cE' : Nat) (es : List Int) (c2 : Int) (t2 : Tok) (h2 : Heap) (tk2 : Nat), Fr h₀ L h2 (fun y => if y = PySem.Str.ofString "early" then some (.ref Pe) else m y) → News h₀ L h2 ((Pe, listOf pes.toArray cE') :: (jl, listOf #[.ref Dj, .int c2 t2] n1) :: ([(cT, oT), (cO, oO), (cLt, oLt), (cH, oH), (cE, oE), (cP, oP), (cC, oC), (cM, oM), (427, tabObj #[]), (cJ, oJ), (Dj, listOf ws.toArray n2)] ++ R)) →
      (∀ p ∈ (jl, listOf #[.ref Dj, .int c2 t2] n1) :: ([(cT, oT), (cO, oO), (cLt, oLt), (cH, oH), (cE, oE), (cP, oP), (cC, oC), (cM, oM), (427, tabObj #[]), (cJ, oJ), (Dj, listOf ws.toArray n2)] ++ R), @LT.lt Nat _ p.1 Pe) → IntsAre pes es → (∀ q ∈ es, 0 ≤ q ∧ q < (n : Int)) → 0 ≤ c2 → c2 < 100 →
      wpAny (model PySem.Challenge.rw_qz0092_01.row.prog w) (ktrTop dp un gd (PySem.Str.ofString "law") lawScope L a (.ref 429) (lawClA cT cO cLt cH cE cP cC cM cJ) outer) (execs (lawRest 5) (envX (PySem.Str.ofString "law") lawScope L a (.ref 429) (lawClA cT cO cLt cH cE cP cC cM cJ))) Q (fun _ _ => False) { s with heap := h2, toks := tk2 } := by
    intro Pe pes cE' es c2 t2 h2 tk2 F2 N2 lt2 hes hine e1 e2
    have PR : ∀ p ∈ (jl, listOf #[.ref Dj, .int c2 t2] n1) :: ([(cT, oT), (cO, oO), (cLt, oLt), (cH, oH), (cE, oE), (cP, oP), (cC, oC), (cM, oM), (427, tabObj #[]), (cJ, oJ), (Dj, listOf ws.toArray n2)] ++ R), @Ne Nat p.1 Pe := fun p hp => Nat.ne_of_lt (lt2 p hp)
    have Pown : Pe ∉ o.adr := fun hm => by
      have : ∃ v, (Pe, v) ∈ o.ex vh2 vd vf [] c6 := by
        replace hm := mem_ors hm
        rcases hm with e | e | e | e | e | e | e <;> rw [e]
        · exact ⟨_, .head _⟩
        · exact ⟨_, .tail _ (.head _)⟩
        · exact ⟨_, .tail _ (.tail _ (.head _))⟩
        · exact ⟨_, .tail _ (.tail _ (.tail _ (.head _)))⟩
        · exact ⟨_, .tail _ (.tail _ (.tail _ (.tail _ (.head _))))⟩
        · exact ⟨_, .tail _ (.tail _ (.tail _ (.tail _ (.tail _ (.head _)))))⟩
        · exact ⟨_, .tail _ (.tail _ (.tail _ (.tail _ (.tail _ (.tail _ (.head _))))))⟩
      obtain ⟨v, hv⟩ := this
      exact PR _ (.tail _ (List.mem_append_right _ (r7 _ hv))) rfl
    have Pc : Pe ∉ [cT, cO, cLt, cH, cE, cP, cC, cM, 427] := fun hm => by
      have : ∃ v, (Pe, v) ∈ [(cT, oT), (cO, oO), (cLt, oLt), (cH, oH), (cE, oE), (cP, oP), (cC, oC), (cM, oM), (427, tabObj #[]), (cJ, oJ), (Dj, listOf ws.toArray n2)] := by
        replace hm := mem_ors hm
        rcases hm with rfl | rfl | rfl | rfl | rfl | rfl | rfl | rfl | rfl
        · exact ⟨oT, by simp⟩
        · exact ⟨oO, by simp⟩
        · exact ⟨oLt, by simp⟩
        · exact ⟨oH, by simp⟩
        · exact ⟨oE, by simp⟩
        · exact ⟨oP, by simp⟩
        · exact ⟨oC, by simp⟩
        · exact ⟨oM, by simp⟩
        · exact ⟨tabObj #[], by simp⟩
      obtain ⟨v, hv⟩ := this
      exact PR _ (.tail _ (List.mem_append_left _ hv)) rfl
    refine law_listed OW hvp (Pe := Pe) (pes := pes) (es := es) (S := S) (R := (Pe, listOf pes.toArray cE') :: R) (q := q) (cq := cq) (pv := pv) (c := c2) (tkc := t2) (n1 := n1) (n2 := n2) B F2 X T CH (fun p hp => ?kN) d1 d2 d3 d4 d5 d6 d7 d8 d9 hws hns e1 e2 hDj hDc (fun p hp => ?kJ) k0 k1 k2 k3 k4 k5 k6 k7 k8 k9 (fun p hp => ?kR) (fun p hp => .tail _ (r7 p hp)) (fun j hj => .tail _ (r8 j hj)) (.head _) (fun j hj => ⟨hq j hj, fun e => PR _ (.tail _ (List.mem_append_right _ (r8 j hj))) e.symm⟩) Pown items g1 g3 g4 g5 g6 gl hS0 (by show (if _ = _ then _ else _) = _; rw [if_pos rfl]) hes hine hn0 hd hu fun h' tk' m' F' => ret _ _ _ F'
    case kN =>
      rcases List.mem_cons.mp hp with rfl | hp
      · exact N2 _ (.tail _ (.head _))
      rcases List.mem_append.mp hp with hp | hp
      · exact N2 p (.tail _ (.tail _ (List.mem_append_left _ hp)))
      rcases List.mem_cons.mp hp with rfl | hp
      · exact N2 _ (.head _)
      · exact N2 p (.tail _ (.tail _ (List.mem_append_right _ hp)))
    case kJ =>
      rcases List.mem_cons.mp hp with rfl | hp
      · exact fun e => PR (jl, listOf #[.ref Dj, .int c2 t2] n1) (.head _) e.symm
      · exact hRj p hp
    case kR =>
      rcases List.mem_cons.mp hp with rfl | hp
      · exact Pc
      · exact hR p hp
  simp only [List.cons_append, List.nil_append] at N
  repeat' ((fail_if_success (with_reducible show wpAny _ _ (call (Value.ref 406) _) _ _ _)); (first | (k_unfold; (try dsimp only)) | walk1 | (dsimp only; walk1) | fail "no step"))
  rename Fr _ _ _ _ => F9
  k_dflt (refine' pour_in (Dj := Dj) (ws := ws) (n2 := n2) B F9 X N (by k_mem) (by k_mem) T ?k5 hDj hws hns c0 (by omega) (by omega) (by omega) ?kd ?ku ?_)
  case k5 => rfl
  case kd => ktr_room
  case ku => ktr_units
  intro h6 tk6 t6 v6 t7 F6 keep Nj b1 b2
  have N6 : News h₀ L h6 ((jl, listOf #[.ref Dj, .int (c + 1) t6] n1) :: ([(cT, oT), (cO, oO), (cLt, oLt), (cH, oH), (cE, oE), (cP, oP), (cC, oC), (cM, oM), (427, tabObj #[]), (cJ, oJ), (Dj, listOf ws.toArray n2)] ++ R)) := fun p hp => by
    rcases List.mem_cons.mp hp with rfl | hp
    · exact Nj _ (.head _)
    · exact keep p (.tail _ hp) (hCj p hp)
  clear N F9 Nj keep
  simp only [List.cons_append, List.nil_append] at N6
  (try dsimp only)
  (try k_fold)
  repeat' ((fail_if_success (with_reducible show wpAny _ _ (call (Value.ref 406) _) _ _ _)); (fail_if_success (with_reducible show wpAny _ _ (execs (lawRest 5) _) _ _ _)); (first | (k_unfold; (try dsimp only)) | walk1 | (dsimp only; walk1) | fail "no step"))
  · rename Fr _ _ _ _ => F9
    k_dflt (refine' pour_in (Dj := Dj) (ws := ws) (n2 := n2) B F9 X N6 (by k_mem) (by k_mem) T ?k5 hDj hws hns (by omega) (by omega) (by omega) (by omega) ?kd ?ku ?_)
    case k5 => rfl
    case kd => ktr_room
    case ku => ktr_units
    intro h8 tk8 t8 v8 t9 F8 keep Nj b3 b4
    have N8 : News h₀ L h8 ((jl, listOf #[.ref Dj, .int (c + 1 + 1) t8] n1) :: ([(cT, oT), (cO, oO), (cLt, oLt), (cH, oH), (cE, oE), (cP, oP), (cC, oC), (cM, oM), (427, tabObj #[]), (cJ, oJ), (Dj, listOf ws.toArray n2)] ++ R)) := fun p hp => by
      rcases List.mem_cons.mp hp with rfl | hp
      · exact Nj _ (.head _)
      · exact keep p (.tail _ hp) (hCj p hp)
    clear N6 F9 Nj keep
    simp only [List.cons_append, List.nil_append] at N8
    (try dsimp only)
    (try k_fold)
    repeat' ((fail_if_success (with_reducible show wpAny _ _ (execs (lawRest 5) _) _ _ _)); (first | (k_unfold; (try dsimp only)) | walk1 | (dsimp only; walk1) | fail "no step"))
    rename News _ _ _ _ => N9
    rename Fr _ _ _ _ => F9
    rename ∀ (q : Addr × Obj), _ ∈ _ → _ < _ => lt9
    exact go _ [.int v8 t9] _ [v8] (c + 1 + 1) t8 _ _ F9 N9 lt9 (.cons v8 t9 .nil) (fun q hq => by rw [List.mem_singleton.mp hq]; exact ⟨b3, b4⟩) (by omega) (by omega)
  · rename News _ _ _ _ => N9
    rename Fr _ _ _ _ => F9
    rename ∀ (q : Addr × Obj), _ ∈ _ → _ < _ => lt9
    exact go _ [] _ [] (c + 1) t6 _ _ F9 N9 lt9 .nil (fun _ h => nomatch h) (by omega) (by omega)
theorem all (x : XX) : StX (x.1) (x.2.1) (x.2.2.1) (x.2.2.2.1) (x.2.2.2.2.1) (x.2.2.2.2.2.1) (x.2.2.2.2.2.2.1) (x.2.2.2.2.2.2.2.1) (x.2.2.2.2.2.2.2.2.1) (x.2.2.2.2.2.2.2.2.2.1) (x.2.2.2.2.2.2.2.2.2.2.1) (x.2.2.2.2.2.2.2.2.2.2.2.1) (x.2.2.2.2.2.2.2.2.2.2.2.2.1) (x.2.2.2.2.2.2.2.2.2.2.2.2.2.1) (x.2.2.2.2.2.2.2.2.2.2.2.2.2.2.1) (x.2.2.2.2.2.2.2.2.2.2.2.2.2.2.2.1) (x.2.2.2.2.2.2.2.2.2.2.2.2.2.2.2.2.1) (x.2.2.2.2.2.2.2.2.2.2.2.2.2.2.2.2.2.1) (x.2.2.2.2.2.2.2.2.2.2.2.2.2.2.2.2.2.2.1) (x.2.2.2.2.2.2.2.2.2.2.2.2.2.2.2.2.2.2.2.1) (x.2.2.2.2.2.2.2.2.2.2.2.2.2.2.2.2.2.2.2.2.1) (x.2.2.2.2.2.2.2.2.2.2.2.2.2.2.2.2.2.2.2.2.2.1) (x.2.2.2.2.2.2.2.2.2.2.2.2.2.2.2.2.2.2.2.2.2.2.1) (x.2.2.2.2.2.2.2.2.2.2.2.2.2.2.2.2.2.2.2.2.2.2.2.1) (x.2.2.2.2.2.2.2.2.2.2.2.2.2.2.2.2.2.2.2.2.2.2.2.2.1) (x.2.2.2.2.2.2.2.2.2.2.2.2.2.2.2.2.2.2.2.2.2.2.2.2.2.1) (x.2.2.2.2.2.2.2.2.2.2.2.2.2.2.2.2.2.2.2.2.2.2.2.2.2.2.1) (x.2.2.2.2.2.2.2.2.2.2.2.2.2.2.2.2.2.2.2.2.2.2.2.2.2.2.2.1) (x.2.2.2.2.2.2.2.2.2.2.2.2.2.2.2.2.2.2.2.2.2.2.2.2.2.2.2.2.1) (x.2.2.2.2.2.2.2.2.2.2.2.2.2.2.2.2.2.2.2.2.2.2.2.2.2.2.2.2.2.1) (x.2.2.2.2.2.2.2.2.2.2.2.2.2.2.2.2.2.2.2.2.2.2.2.2.2.2.2.2.2.2.1) (x.2.2.2.2.2.2.2.2.2.2.2.2.2.2.2.2.2.2.2.2.2.2.2.2.2.2.2.2.2.2.2.1) (x.2.2.2.2.2.2.2.2.2.2.2.2.2.2.2.2.2.2.2.2.2.2.2.2.2.2.2.2.2.2.2.2.1) (x.2.2.2.2.2.2.2.2.2.2.2.2.2.2.2.2.2.2.2.2.2.2.2.2.2.2.2.2.2.2.2.2.2.1) (x.2.2.2.2.2.2.2.2.2.2.2.2.2.2.2.2.2.2.2.2.2.2.2.2.2.2.2.2.2.2.2.2.2.2.1) (x.2.2.2.2.2.2.2.2.2.2.2.2.2.2.2.2.2.2.2.2.2.2.2.2.2.2.2.2.2.2.2.2.2.2.2.1) (x.2.2.2.2.2.2.2.2.2.2.2.2.2.2.2.2.2.2.2.2.2.2.2.2.2.2.2.2.2.2.2.2.2.2.2.2.1) (x.2.2.2.2.2.2.2.2.2.2.2.2.2.2.2.2.2.2.2.2.2.2.2.2.2.2.2.2.2.2.2.2.2.2.2.2.2.1) (x.2.2.2.2.2.2.2.2.2.2.2.2.2.2.2.2.2.2.2.2.2.2.2.2.2.2.2.2.2.2.2.2.2.2.2.2.2.2.1) (x.2.2.2.2.2.2.2.2.2.2.2.2.2.2.2.2.2.2.2.2.2.2.2.2.2.2.2.2.2.2.2.2.2.2.2.2.2.2.2.1) (x.2.2.2.2.2.2.2.2.2.2.2.2.2.2.2.2.2.2.2.2.2.2.2.2.2.2.2.2.2.2.2.2.2.2.2.2.2.2.2.2.1) (x.2.2.2.2.2.2.2.2.2.2.2.2.2.2.2.2.2.2.2.2.2.2.2.2.2.2.2.2.2.2.2.2.2.2.2.2.2.2.2.2.2.1) (x.2.2.2.2.2.2.2.2.2.2.2.2.2.2.2.2.2.2.2.2.2.2.2.2.2.2.2.2.2.2.2.2.2.2.2.2.2.2.2.2.2.2.1) (x.2.2.2.2.2.2.2.2.2.2.2.2.2.2.2.2.2.2.2.2.2.2.2.2.2.2.2.2.2.2.2.2.2.2.2.2.2.2.2.2.2.2.2.1) (x.2.2.2.2.2.2.2.2.2.2.2.2.2.2.2.2.2.2.2.2.2.2.2.2.2.2.2.2.2.2.2.2.2.2.2.2.2.2.2.2.2.2.2.2.1) (x.2.2.2.2.2.2.2.2.2.2.2.2.2.2.2.2.2.2.2.2.2.2.2.2.2.2.2.2.2.2.2.2.2.2.2.2.2.2.2.2.2.2.2.2.2.1) (x.2.2.2.2.2.2.2.2.2.2.2.2.2.2.2.2.2.2.2.2.2.2.2.2.2.2.2.2.2.2.2.2.2.2.2.2.2.2.2.2.2.2.2.2.2.2.1) (x.2.2.2.2.2.2.2.2.2.2.2.2.2.2.2.2.2.2.2.2.2.2.2.2.2.2.2.2.2.2.2.2.2.2.2.2.2.2.2.2.2.2.2.2.2.2.2.1) (x.2.2.2.2.2.2.2.2.2.2.2.2.2.2.2.2.2.2.2.2.2.2.2.2.2.2.2.2.2.2.2.2.2.2.2.2.2.2.2.2.2.2.2.2.2.2.2.2.1) (x.2.2.2.2.2.2.2.2.2.2.2.2.2.2.2.2.2.2.2.2.2.2.2.2.2.2.2.2.2.2.2.2.2.2.2.2.2.2.2.2.2.2.2.2.2.2.2.2.2.1) (x.2.2.2.2.2.2.2.2.2.2.2.2.2.2.2.2.2.2.2.2.2.2.2.2.2.2.2.2.2.2.2.2.2.2.2.2.2.2.2.2.2.2.2.2.2.2.2.2.2.2.1) (x.2.2.2.2.2.2.2.2.2.2.2.2.2.2.2.2.2.2.2.2.2.2.2.2.2.2.2.2.2.2.2.2.2.2.2.2.2.2.2.2.2.2.2.2.2.2.2.2.2.2.2.1) (x.2.2.2.2.2.2.2.2.2.2.2.2.2.2.2.2.2.2.2.2.2.2.2.2.2.2.2.2.2.2.2.2.2.2.2.2.2.2.2.2.2.2.2.2.2.2.2.2.2.2.2.2.1) (x.2.2.2.2.2.2.2.2.2.2.2.2.2.2.2.2.2.2.2.2.2.2.2.2.2.2.2.2.2.2.2.2.2.2.2.2.2.2.2.2.2.2.2.2.2.2.2.2.2.2.2.2.2.1) (x.2.2.2.2.2.2.2.2.2.2.2.2.2.2.2.2.2.2.2.2.2.2.2.2.2.2.2.2.2.2.2.2.2.2.2.2.2.2.2.2.2.2.2.2.2.2.2.2.2.2.2.2.2.2.1) (x.2.2.2.2.2.2.2.2.2.2.2.2.2.2.2.2.2.2.2.2.2.2.2.2.2.2.2.2.2.2.2.2.2.2.2.2.2.2.2.2.2.2.2.2.2.2.2.2.2.2.2.2.2.2.2.1) (x.2.2.2.2.2.2.2.2.2.2.2.2.2.2.2.2.2.2.2.2.2.2.2.2.2.2.2.2.2.2.2.2.2.2.2.2.2.2.2.2.2.2.2.2.2.2.2.2.2.2.2.2.2.2.2.2.1) (x.2.2.2.2.2.2.2.2.2.2.2.2.2.2.2.2.2.2.2.2.2.2.2.2.2.2.2.2.2.2.2.2.2.2.2.2.2.2.2.2.2.2.2.2.2.2.2.2.2.2.2.2.2.2.2.2.2) := eps_all (ne := neX) (P := fun x => StX (x.1) (x.2.1) (x.2.2.1) (x.2.2.2.1) (x.2.2.2.2.1) (x.2.2.2.2.2.1) (x.2.2.2.2.2.2.1) (x.2.2.2.2.2.2.2.1) (x.2.2.2.2.2.2.2.2.1) (x.2.2.2.2.2.2.2.2.2.1) (x.2.2.2.2.2.2.2.2.2.2.1) (x.2.2.2.2.2.2.2.2.2.2.2.1) (x.2.2.2.2.2.2.2.2.2.2.2.2.1) (x.2.2.2.2.2.2.2.2.2.2.2.2.2.1) (x.2.2.2.2.2.2.2.2.2.2.2.2.2.2.1) (x.2.2.2.2.2.2.2.2.2.2.2.2.2.2.2.1) (x.2.2.2.2.2.2.2.2.2.2.2.2.2.2.2.2.1) (x.2.2.2.2.2.2.2.2.2.2.2.2.2.2.2.2.2.1) (x.2.2.2.2.2.2.2.2.2.2.2.2.2.2.2.2.2.2.1) (x.2.2.2.2.2.2.2.2.2.2.2.2.2.2.2.2.2.2.2.1) (x.2.2.2.2.2.2.2.2.2.2.2.2.2.2.2.2.2.2.2.2.1) (x.2.2.2.2.2.2.2.2.2.2.2.2.2.2.2.2.2.2.2.2.2.1) (x.2.2.2.2.2.2.2.2.2.2.2.2.2.2.2.2.2.2.2.2.2.2.1) (x.2.2.2.2.2.2.2.2.2.2.2.2.2.2.2.2.2.2.2.2.2.2.2.1) (x.2.2.2.2.2.2.2.2.2.2.2.2.2.2.2.2.2.2.2.2.2.2.2.2.1) (x.2.2.2.2.2.2.2.2.2.2.2.2.2.2.2.2.2.2.2.2.2.2.2.2.2.1) (x.2.2.2.2.2.2.2.2.2.2.2.2.2.2.2.2.2.2.2.2.2.2.2.2.2.2.1) (x.2.2.2.2.2.2.2.2.2.2.2.2.2.2.2.2.2.2.2.2.2.2.2.2.2.2.2.1) (x.2.2.2.2.2.2.2.2.2.2.2.2.2.2.2.2.2.2.2.2.2.2.2.2.2.2.2.2.1) (x.2.2.2.2.2.2.2.2.2.2.2.2.2.2.2.2.2.2.2.2.2.2.2.2.2.2.2.2.2.1) (x.2.2.2.2.2.2.2.2.2.2.2.2.2.2.2.2.2.2.2.2.2.2.2.2.2.2.2.2.2.2.1) (x.2.2.2.2.2.2.2.2.2.2.2.2.2.2.2.2.2.2.2.2.2.2.2.2.2.2.2.2.2.2.2.1) (x.2.2.2.2.2.2.2.2.2.2.2.2.2.2.2.2.2.2.2.2.2.2.2.2.2.2.2.2.2.2.2.2.1) (x.2.2.2.2.2.2.2.2.2.2.2.2.2.2.2.2.2.2.2.2.2.2.2.2.2.2.2.2.2.2.2.2.2.1) (x.2.2.2.2.2.2.2.2.2.2.2.2.2.2.2.2.2.2.2.2.2.2.2.2.2.2.2.2.2.2.2.2.2.2.1) (x.2.2.2.2.2.2.2.2.2.2.2.2.2.2.2.2.2.2.2.2.2.2.2.2.2.2.2.2.2.2.2.2.2.2.2.1) (x.2.2.2.2.2.2.2.2.2.2.2.2.2.2.2.2.2.2.2.2.2.2.2.2.2.2.2.2.2.2.2.2.2.2.2.2.1) (x.2.2.2.2.2.2.2.2.2.2.2.2.2.2.2.2.2.2.2.2.2.2.2.2.2.2.2.2.2.2.2.2.2.2.2.2.2.1) (x.2.2.2.2.2.2.2.2.2.2.2.2.2.2.2.2.2.2.2.2.2.2.2.2.2.2.2.2.2.2.2.2.2.2.2.2.2.2.1) (x.2.2.2.2.2.2.2.2.2.2.2.2.2.2.2.2.2.2.2.2.2.2.2.2.2.2.2.2.2.2.2.2.2.2.2.2.2.2.2.1) (x.2.2.2.2.2.2.2.2.2.2.2.2.2.2.2.2.2.2.2.2.2.2.2.2.2.2.2.2.2.2.2.2.2.2.2.2.2.2.2.2.1) (x.2.2.2.2.2.2.2.2.2.2.2.2.2.2.2.2.2.2.2.2.2.2.2.2.2.2.2.2.2.2.2.2.2.2.2.2.2.2.2.2.2.1) (x.2.2.2.2.2.2.2.2.2.2.2.2.2.2.2.2.2.2.2.2.2.2.2.2.2.2.2.2.2.2.2.2.2.2.2.2.2.2.2.2.2.2.1) (x.2.2.2.2.2.2.2.2.2.2.2.2.2.2.2.2.2.2.2.2.2.2.2.2.2.2.2.2.2.2.2.2.2.2.2.2.2.2.2.2.2.2.2.1) (x.2.2.2.2.2.2.2.2.2.2.2.2.2.2.2.2.2.2.2.2.2.2.2.2.2.2.2.2.2.2.2.2.2.2.2.2.2.2.2.2.2.2.2.2.1) (x.2.2.2.2.2.2.2.2.2.2.2.2.2.2.2.2.2.2.2.2.2.2.2.2.2.2.2.2.2.2.2.2.2.2.2.2.2.2.2.2.2.2.2.2.2.1) (x.2.2.2.2.2.2.2.2.2.2.2.2.2.2.2.2.2.2.2.2.2.2.2.2.2.2.2.2.2.2.2.2.2.2.2.2.2.2.2.2.2.2.2.2.2.2.1) (x.2.2.2.2.2.2.2.2.2.2.2.2.2.2.2.2.2.2.2.2.2.2.2.2.2.2.2.2.2.2.2.2.2.2.2.2.2.2.2.2.2.2.2.2.2.2.2.1) (x.2.2.2.2.2.2.2.2.2.2.2.2.2.2.2.2.2.2.2.2.2.2.2.2.2.2.2.2.2.2.2.2.2.2.2.2.2.2.2.2.2.2.2.2.2.2.2.2.1) (x.2.2.2.2.2.2.2.2.2.2.2.2.2.2.2.2.2.2.2.2.2.2.2.2.2.2.2.2.2.2.2.2.2.2.2.2.2.2.2.2.2.2.2.2.2.2.2.2.2.1) (x.2.2.2.2.2.2.2.2.2.2.2.2.2.2.2.2.2.2.2.2.2.2.2.2.2.2.2.2.2.2.2.2.2.2.2.2.2.2.2.2.2.2.2.2.2.2.2.2.2.2.1) (x.2.2.2.2.2.2.2.2.2.2.2.2.2.2.2.2.2.2.2.2.2.2.2.2.2.2.2.2.2.2.2.2.2.2.2.2.2.2.2.2.2.2.2.2.2.2.2.2.2.2.2.1) (x.2.2.2.2.2.2.2.2.2.2.2.2.2.2.2.2.2.2.2.2.2.2.2.2.2.2.2.2.2.2.2.2.2.2.2.2.2.2.2.2.2.2.2.2.2.2.2.2.2.2.2.2.1) (x.2.2.2.2.2.2.2.2.2.2.2.2.2.2.2.2.2.2.2.2.2.2.2.2.2.2.2.2.2.2.2.2.2.2.2.2.2.2.2.2.2.2.2.2.2.2.2.2.2.2.2.2.2.1) (x.2.2.2.2.2.2.2.2.2.2.2.2.2.2.2.2.2.2.2.2.2.2.2.2.2.2.2.2.2.2.2.2.2.2.2.2.2.2.2.2.2.2.2.2.2.2.2.2.2.2.2.2.2.2.1) (x.2.2.2.2.2.2.2.2.2.2.2.2.2.2.2.2.2.2.2.2.2.2.2.2.2.2.2.2.2.2.2.2.2.2.2.2.2.2.2.2.2.2.2.2.2.2.2.2.2.2.2.2.2.2.2.1) (x.2.2.2.2.2.2.2.2.2.2.2.2.2.2.2.2.2.2.2.2.2.2.2.2.2.2.2.2.2.2.2.2.2.2.2.2.2.2.2.2.2.2.2.2.2.2.2.2.2.2.2.2.2.2.2.2.1) (x.2.2.2.2.2.2.2.2.2.2.2.2.2.2.2.2.2.2.2.2.2.2.2.2.2.2.2.2.2.2.2.2.2.2.2.2.2.2.2.2.2.2.2.2.2.2.2.2.2.2.2.2.2.2.2.2.2)) (by with_unfolding_all exact core) x
end C_law_mk4
theorem law_mk4 {w : World}
  {p : Program}
  {loose : List PySem.Str}
  {mean : ExcName → Option Value}
  {mg mb : PySem.Str → Option Value}
  {o : OwnA}
  {plan : List (List Int)}
  {bl : List Bool}
  {n : Nat}
  (OW : OwnOk w o plan bl n)
  (hvp : o.vp.length = n)
  {dp un : Nat}
  {gd : Option (List Code)}
  {a : Addr}
  {outer : List Env}
  {A₀ : Around}
  {base h₀ : Heap}
  {L : Addr}
  {m : PySem.Str → Option Value}
  {s : Shared}
  {Q : Flow → Shared → Prop}
  {E : Value → Shared → Prop}
  {cT cO cLt cH cE cP cC cM cJ : Addr}
  {oT oO oLt oH oE oP oC oM : Obj}
  {jl Dj : Addr}
  {tm tkc : Tok}
  {oJ : Obj}
  {c : Int}
  {n1 n2 : Nat}
  {ws : List Value}
  {ns : List Int}
  {c6 : Nat}
  {vh2 vd vf : List Value}
  {q : Nat → Addr}
  {cq : Nat → Nat}
  {pv : Nat → List Value}
  {S : S}
  {R : List (Addr × Obj)}
  (B : Below A₀ base outer h₀)
  (F : Fr h₀ L s.heap m)
  (X : (hd.heap_1 w.params).In h₀)
  (T : Top p loose mean mg mb h₀)
  (CH : CodeHd h₀ 429 427)
  (N : News h₀ L s.heap ((jl, listOf #[.ref Dj, .int c tkc] n1) :: ([(cT, oT), (cO, oO), (cLt, oLt), (cH, oH), (cE, oE), (cP, oP), (cC, oC), (cM, oM), (427, tabObj #[]), (cJ, oJ), (Dj, listOf ws.toArray n2)] ++ R)))
  (d1 : oT.data = .cell none)
  (d2 : oO.data = .cell (some (.ref o.od)))
  (d3 : oLt.data = .cell none)
  (d4 : oH.data = .cell none)
  (d5 : oE.data = .cell none)
  (d6 : oP.data = .cell none)
  (d7 : oC.data = .cell none)
  (d8 : oM.data = .cell (some (.int (n : Int) tm)))
  (d9 : oJ.data = .cell (some (.ref jl)))
  (hws : IntsAre ws ns)
  (hns : ns.length ≤ 40)
  (c0 : 0 ≤ c)
  (c1 : c < 90)
  (hDj : @LT.lt Nat _ Dj jl)
  (hDc : @LT.lt Nat _ cT Dj)
  (hRj : ∀ p ∈ R, p.1 ≠ jl)
  (k0 : @LT.lt Nat _ 427 L)
  (k1 : @LT.lt Nat _ L cJ)
  (k2 : @LT.lt Nat _ cJ cM)
  (k3 : @LT.lt Nat _ cM cC)
  (k4 : @LT.lt Nat _ cC cP)
  (k5 : @LT.lt Nat _ cP cE)
  (k6 : @LT.lt Nat _ cE cH)
  (k7 : @LT.lt Nat _ cH cLt)
  (k8 : @LT.lt Nat _ cLt cO)
  (k9 : @LT.lt Nat _ cO cT)
  (hR : ∀ p ∈ R, p.1 ∉ [cT, cO, cLt, cH, cE, cP, cC, cM, 427])
  (r7 : ∀ p ∈ o.ex vh2 vd vf [] c6, p ∈ R)
  (r8 : ∀ j, j < n → (q j, listOf (pv j).toArray (cq j)) ∈ R)
  (hq : ∀ j, j < n → q j ∉ o.adr)
  (items : ∀ j, j < n → o.vp[j]? = some (.ref (q j)) ∧ IntsAre (pv j) (plan.getD j []))
  (g1 : S.held = List.replicate n true)
  (g3 : BoolsAre vh2 S.held)
  (g4 : BoolsAre vd S.done)
  (g5 : BoolsAre vf S.freed)
  (g6 : S.log = [])
  (gl : S.Len n)
  (hS0 : ∀ j, j < n → S.held.getD j false = true ∧ S.done.getD j false = false ∧ S.freed.getD j false = false)
  (hn0 : 0 < n)
  (hd : dp + 60 < recursionLimit)
  (hu : un + 600 < cLine)
  (ret : ∀ h' tk' m', Fr h₀ L h' m' → GrownAt 427 h' → Q (.ret (.bool true)) { s with heap := h', toks := tk' }) : wpAny (model Pr w) (ktrTop dp un gd (PySem.Str.ofString "law") lawScope L a (.ref 429) (lawClA cT cO cLt cH cE cP cC cM cJ) outer) (execs (lawRest 4) (envX (PySem.Str.ofString "law") lawScope L a (.ref 429) (lawClA cT cO cLt cH cE cP cC cM cJ))) Q E s :=
  C_law_mk4.all (w, p, loose, mean, mg, mb, o, plan, bl, n, dp, un, gd, a, outer, A₀, base, h₀, L, m, s, Q, E, cT, cO, cLt, cH, cE, cP, cC, cM, cJ, oT, oO, oLt, oH, oE, oP, oC, oM, jl, Dj, tm, tkc, oJ, c, n1, n2, ws, ns, c6, vh2, vd, vf, q, cq, pv, R) S OW hvp B F X T CH N d1 d2 d3 d4 d5 d6 d7 d8 d9 hws hns c0 c1 hDj hDc hRj k0 k1 k2 k3 k4 k5 k6 k7 k8 k9 hR r7 r8 hq items g1 g3 g4 g5 g6 gl hS0 hn0 hd hu ret
end Mine
end
theorem Mine.rs_LawFill : True := by
  w_top off
  trivial
section
open PySem PySem.W PyProof.Rows PySem.Calls LSm
namespace Mine
theorem append_in {prog : Program} {w : World} {A : Around} {E : Value → Shared → Prop} {s : Shared} {h₀ : Heap} {L D : Addr} {m : PySem.Str → Option Value} {W : List (Addr × Obj)} {vs : List Value} {k : Nat} {x : Value} {Q : Value → Shared → Prop} (F : Fr h₀ L s.heap m) (N : News h₀ L s.heap W) (mD : (D, listOf vs.toArray k) ∈ W) (hsz : vs.length ≤ 100)
    (h : ∀ h', Fr h₀ L h' m → (∀ q ∈ W, q.1 ≠ D → h'.get? q.1 = some q.2 ∧ q.1 ≠ L ∧ h₀.get? q.1 = none) → News h₀ L h' [(D, listOf (vs ++ [x]).toArray (k + 1))] → Q .none { s with heap := h' }) : wpAny (model prog w) A (call (.builtin "list.append") [.ref D, x]) Q E s := by
  obtain ⟨R2, N2, ho, hs, hs2⟩ := split_news (Ex := [(D, listOf vs.toArray k)]) N (fun p hp => by rw [List.mem_singleton.mp hp]; exact mD)
  refine append_K F N2 (.head fun q hq => ho q hq _ (.head _)) (fun h' F' N' => h h' F' (fun q hq hne => ?_) fun q hq => ?_) (by rw [List.size_toArray, PySem.sizeLine_eq]; omega)
  · rcases List.mem_append.mp (hs q hq) with h1 | h1
    · rw [List.mem_singleton.mp h1] at hne; exact absurd rfl hne
    · exact N' q (.tail _ h1)
  · rw [List.mem_singleton.mp hq]
    have := N' _ (.head _)
    rw [List.push_toArray] at this
    exact this
noncomputable def pls (i : Nat) (q : Nat → Addr) (pv : Nat → List Value) (cq : Nat → Nat) : List (Addr × Obj) := (List.range i).map fun j => (q j, listOf (pv j).toArray (cq j))
theorem pls_step {i : Nat} {q : Nat → Addr} {pv : Nat → List Value} {cq : Nat → Nat} {a : Addr} {b : List Value} {c : Nat} {p : Addr × Obj} (h : p ∈ pls (i + 1) (upF q i a) (upF pv i b) (upF cq i c)) : p ∈ pls i q pv cq ∨ p = (a, listOf b.toArray c) := by
  obtain ⟨j, hj, rfl⟩ := List.mem_map.mp h
  by_cases e : j = i
  · subst e; simp only [upF_self]; exact .inr trivial
  · simp only [upF_ne e]
    exact .inl (List.mem_map.mpr ⟨j, List.mem_range.mpr (by have := List.mem_range.mp hj; omega), rfl⟩)
namespace C_law_fill
noncomputable abbrev XX : Type := (World) × (Program) × (List PySem.Str) × (ExcName → Option Value) × (PySem.Str → Option Value) × (PySem.Str → Option Value) × (Nat) × (Nat) × (Nat) × (Option (List Code)) × (Addr) × (List Env) × (Around) × (Heap) × (Heap) × (Addr) × (PySem.Str → Option Value) × (Shared) × (Flow → Shared → Prop) × (Value → Shared → Prop) × (Addr) × (Addr) × (Addr) × (Addr) × (Addr) × (Addr) × (Addr) × (Addr) × (Addr) × (Obj) × (Obj) × (Obj) × (Obj) × (Obj) × (Obj) × (Obj) × (Obj) × (Addr) × (Addr) × (Tok) × (Tok) × (Obj) × (Int) × (Nat) × (Nat) × (List Value) × (List Int) × (Addr) × (Addr) × (Addr) × (Addr) × (Addr) × (Addr) × (Addr) × (Obj) × (Nat) × (Nat) × (Nat) × (Nat) × (Nat) × (Nat) × (List Value) × (List Value) × (List Value)
noncomputable def StX (w : World) (p : Program) (loose : List PySem.Str) (mean : ExcName → Option Value) (mg : PySem.Str → Option Value) (mb : PySem.Str → Option Value) (n : Nat) (dp : Nat) (un : Nat) (gd : Option (List Code)) (a : Addr) (outer : List Env) (A₀ : Around) (base : Heap) (h₀ : Heap) (L : Addr) (m : PySem.Str → Option Value) (s : Shared) (Q : Flow → Shared → Prop) (E : Value → Shared → Prop) (cT : Addr) (cO : Addr) (cLt : Addr) (cH : Addr) (cE : Addr) (cP : Addr) (cC : Addr) (cM : Addr) (cJ : Addr) (oT : Obj) (oO : Obj) (oLt : Obj) (oH : Obj) (oE : Obj) (oP : Obj) (oC : Obj) (oM : Obj) (jl : Addr) (Dj : Addr) (tm : Tok) (tkc : Tok) (oJ : Obj) (c : Int) (n1 : Nat) (n2 : Nat) (ws : List Value) (ns : List Int) (od : Addr) (hl2 : Addr) (dl : Addr) (fl : Addr) (bll : Addr) (pl : Addr) (gl : Addr) (oo : Obj) (k1 : Nat) (k2 : Nat) (k3 : Nat) (k4 : Nat) (k5 : Nat) (k6 : Nat) (vh2 : List Value) (vd : List Value) (vf : List Value) : Prop :=
  ∀ (B : Below A₀ base outer h₀) (F : Fr h₀ L s.heap m) (X : (hd.heap_1 w.params).In h₀) (T : Top p loose mean mg mb h₀) (CH : CodeHd h₀ 429 427) (N : News h₀ L s.heap ((jl, listOf #[.ref Dj, .int c tkc] n1) :: (bll, listOf #[] k4) :: (pl, listOf #[] k5) :: ([(cT, oT), (cO, oO), (cLt, oLt), (cH, oH), (cE, oE), (cP, oP), (cC, oC), (cM, oM), (427, tabObj #[]), (cJ, oJ), (Dj, listOf ws.toArray n2)] ++ [(od, oo), (hl2, listOf vh2.toArray k1), (dl, listOf vd.toArray k2), (fl, listOf vf.toArray k3), (gl, listOf #[] k6)]))) (d1 : oT.data = .cell none) (d2 : oO.data = .cell (some (.ref od))) (d3 : oLt.data = .cell none) (d4 : oH.data = .cell none) (d5 : oE.data = .cell none) (d6 : oP.data = .cell none) (d7 : oC.data = .cell none) (d8 : oM.data = .cell (some (.int (n : Int) tm))) (d9 : oJ.data = .cell (some (.ref jl))) (hws : IntsAre ws ns) (hns : ns.length ≤ 40) (c0 : 0 ≤ c) (c1 : c < 10) (hDj : @LT.lt Nat _ Dj jl) (hDc : @LT.lt Nat _ cT Dj) (k0 : @LT.lt Nat _ 427 L) (k1' : @LT.lt Nat _ L cJ) (k2' : @LT.lt Nat _ cJ cM) (k3' : @LT.lt Nat _ cM cC) (k4' : @LT.lt Nat _ cC cP) (k5' : @LT.lt Nat _ cP cE) (k6' : @LT.lt Nat _ cE cH) (k7 : @LT.lt Nat _ cH cLt) (k8 : @LT.lt Nat _ cLt cO) (k9 : @LT.lt Nat _ cO cT) (hdict : Obj.IsDictOf (PySem.strKind Pr w) oo [(PySem.Str.ofString "held", .ref hl2), (PySem.Str.ofString "done", .ref dl), (PySem.Str.ofString "freed", .ref fl), (PySem.Str.ofString "blessed", .ref bll), (PySem.Str.ofString "plan", .ref pl), (PySem.Str.ofString "log", .ref gl)]) (hnd : [od, hl2, dl, fl, bll, pl, gl].Nodup) (hown : ∀ b ∈ [od, hl2, dl, fl, bll, pl, gl], @LT.lt Nat _ jl b) (g3 : BoolsAre vh2 (List.replicate n true)) (g4 : BoolsAre vd (List.replicate n false)) (g5 : BoolsAre vf (List.replicate n false)) (hn0 : 0 < n) (hn5 : n ≤ 5) (hd : dp + 60 < recursionLimit) (hu : un + 600 < cLine) (ret : ∀ h' tk' m', Fr h₀ L h' m' → GrownAt 427 h' → Q (.ret (.bool true)) { s with heap := h', toks := tk' }), wpAny (model Pr w) (ktrTop dp un gd (PySem.Str.ofString "law") lawScope L a (.ref 429) (lawClA cT cO cLt cH cE cP cC cM cJ) outer) (execs (lawRest 3) (envX (PySem.Str.ofString "law") lawScope L a (.ref 429) (lawClA cT cO cLt cH cE cP cC cM cJ))) Q E s
theorem neX : Nonempty XX := by
  refine ⟨?_⟩
  repeat' (first | exact default | exact aWorld 1 | constructor | intro _)
noncomputable def cX : XX := @Classical.epsilon XX neX fun x => ¬ StX (x.1) (x.2.1) (x.2.2.1) (x.2.2.2.1) (x.2.2.2.2.1) (x.2.2.2.2.2.1) (x.2.2.2.2.2.2.1) (x.2.2.2.2.2.2.2.1) (x.2.2.2.2.2.2.2.2.1) (x.2.2.2.2.2.2.2.2.2.1) (x.2.2.2.2.2.2.2.2.2.2.1) (x.2.2.2.2.2.2.2.2.2.2.2.1) (x.2.2.2.2.2.2.2.2.2.2.2.2.1) (x.2.2.2.2.2.2.2.2.2.2.2.2.2.1) (x.2.2.2.2.2.2.2.2.2.2.2.2.2.2.1) (x.2.2.2.2.2.2.2.2.2.2.2.2.2.2.2.1) (x.2.2.2.2.2.2.2.2.2.2.2.2.2.2.2.2.1) (x.2.2.2.2.2.2.2.2.2.2.2.2.2.2.2.2.2.1) (x.2.2.2.2.2.2.2.2.2.2.2.2.2.2.2.2.2.2.1) (x.2.2.2.2.2.2.2.2.2.2.2.2.2.2.2.2.2.2.2.1) (x.2.2.2.2.2.2.2.2.2.2.2.2.2.2.2.2.2.2.2.2.1) (x.2.2.2.2.2.2.2.2.2.2.2.2.2.2.2.2.2.2.2.2.2.1) (x.2.2.2.2.2.2.2.2.2.2.2.2.2.2.2.2.2.2.2.2.2.2.1) (x.2.2.2.2.2.2.2.2.2.2.2.2.2.2.2.2.2.2.2.2.2.2.2.1) (x.2.2.2.2.2.2.2.2.2.2.2.2.2.2.2.2.2.2.2.2.2.2.2.2.1) (x.2.2.2.2.2.2.2.2.2.2.2.2.2.2.2.2.2.2.2.2.2.2.2.2.2.1) (x.2.2.2.2.2.2.2.2.2.2.2.2.2.2.2.2.2.2.2.2.2.2.2.2.2.2.1) (x.2.2.2.2.2.2.2.2.2.2.2.2.2.2.2.2.2.2.2.2.2.2.2.2.2.2.2.1) (x.2.2.2.2.2.2.2.2.2.2.2.2.2.2.2.2.2.2.2.2.2.2.2.2.2.2.2.2.1) (x.2.2.2.2.2.2.2.2.2.2.2.2.2.2.2.2.2.2.2.2.2.2.2.2.2.2.2.2.2.1) (x.2.2.2.2.2.2.2.2.2.2.2.2.2.2.2.2.2.2.2.2.2.2.2.2.2.2.2.2.2.2.1) (x.2.2.2.2.2.2.2.2.2.2.2.2.2.2.2.2.2.2.2.2.2.2.2.2.2.2.2.2.2.2.2.1) (x.2.2.2.2.2.2.2.2.2.2.2.2.2.2.2.2.2.2.2.2.2.2.2.2.2.2.2.2.2.2.2.2.1) (x.2.2.2.2.2.2.2.2.2.2.2.2.2.2.2.2.2.2.2.2.2.2.2.2.2.2.2.2.2.2.2.2.2.1) (x.2.2.2.2.2.2.2.2.2.2.2.2.2.2.2.2.2.2.2.2.2.2.2.2.2.2.2.2.2.2.2.2.2.2.1) (x.2.2.2.2.2.2.2.2.2.2.2.2.2.2.2.2.2.2.2.2.2.2.2.2.2.2.2.2.2.2.2.2.2.2.2.1) (x.2.2.2.2.2.2.2.2.2.2.2.2.2.2.2.2.2.2.2.2.2.2.2.2.2.2.2.2.2.2.2.2.2.2.2.2.1) (x.2.2.2.2.2.2.2.2.2.2.2.2.2.2.2.2.2.2.2.2.2.2.2.2.2.2.2.2.2.2.2.2.2.2.2.2.2.1) (x.2.2.2.2.2.2.2.2.2.2.2.2.2.2.2.2.2.2.2.2.2.2.2.2.2.2.2.2.2.2.2.2.2.2.2.2.2.2.1) (x.2.2.2.2.2.2.2.2.2.2.2.2.2.2.2.2.2.2.2.2.2.2.2.2.2.2.2.2.2.2.2.2.2.2.2.2.2.2.2.1) (x.2.2.2.2.2.2.2.2.2.2.2.2.2.2.2.2.2.2.2.2.2.2.2.2.2.2.2.2.2.2.2.2.2.2.2.2.2.2.2.2.1) (x.2.2.2.2.2.2.2.2.2.2.2.2.2.2.2.2.2.2.2.2.2.2.2.2.2.2.2.2.2.2.2.2.2.2.2.2.2.2.2.2.2.1) (x.2.2.2.2.2.2.2.2.2.2.2.2.2.2.2.2.2.2.2.2.2.2.2.2.2.2.2.2.2.2.2.2.2.2.2.2.2.2.2.2.2.2.1) (x.2.2.2.2.2.2.2.2.2.2.2.2.2.2.2.2.2.2.2.2.2.2.2.2.2.2.2.2.2.2.2.2.2.2.2.2.2.2.2.2.2.2.2.1) (x.2.2.2.2.2.2.2.2.2.2.2.2.2.2.2.2.2.2.2.2.2.2.2.2.2.2.2.2.2.2.2.2.2.2.2.2.2.2.2.2.2.2.2.2.1) (x.2.2.2.2.2.2.2.2.2.2.2.2.2.2.2.2.2.2.2.2.2.2.2.2.2.2.2.2.2.2.2.2.2.2.2.2.2.2.2.2.2.2.2.2.2.1) (x.2.2.2.2.2.2.2.2.2.2.2.2.2.2.2.2.2.2.2.2.2.2.2.2.2.2.2.2.2.2.2.2.2.2.2.2.2.2.2.2.2.2.2.2.2.2.1) (x.2.2.2.2.2.2.2.2.2.2.2.2.2.2.2.2.2.2.2.2.2.2.2.2.2.2.2.2.2.2.2.2.2.2.2.2.2.2.2.2.2.2.2.2.2.2.2.1) (x.2.2.2.2.2.2.2.2.2.2.2.2.2.2.2.2.2.2.2.2.2.2.2.2.2.2.2.2.2.2.2.2.2.2.2.2.2.2.2.2.2.2.2.2.2.2.2.2.1) (x.2.2.2.2.2.2.2.2.2.2.2.2.2.2.2.2.2.2.2.2.2.2.2.2.2.2.2.2.2.2.2.2.2.2.2.2.2.2.2.2.2.2.2.2.2.2.2.2.2.1) (x.2.2.2.2.2.2.2.2.2.2.2.2.2.2.2.2.2.2.2.2.2.2.2.2.2.2.2.2.2.2.2.2.2.2.2.2.2.2.2.2.2.2.2.2.2.2.2.2.2.2.1) (x.2.2.2.2.2.2.2.2.2.2.2.2.2.2.2.2.2.2.2.2.2.2.2.2.2.2.2.2.2.2.2.2.2.2.2.2.2.2.2.2.2.2.2.2.2.2.2.2.2.2.2.1) (x.2.2.2.2.2.2.2.2.2.2.2.2.2.2.2.2.2.2.2.2.2.2.2.2.2.2.2.2.2.2.2.2.2.2.2.2.2.2.2.2.2.2.2.2.2.2.2.2.2.2.2.2.1) (x.2.2.2.2.2.2.2.2.2.2.2.2.2.2.2.2.2.2.2.2.2.2.2.2.2.2.2.2.2.2.2.2.2.2.2.2.2.2.2.2.2.2.2.2.2.2.2.2.2.2.2.2.2.1) (x.2.2.2.2.2.2.2.2.2.2.2.2.2.2.2.2.2.2.2.2.2.2.2.2.2.2.2.2.2.2.2.2.2.2.2.2.2.2.2.2.2.2.2.2.2.2.2.2.2.2.2.2.2.2.1) (x.2.2.2.2.2.2.2.2.2.2.2.2.2.2.2.2.2.2.2.2.2.2.2.2.2.2.2.2.2.2.2.2.2.2.2.2.2.2.2.2.2.2.2.2.2.2.2.2.2.2.2.2.2.2.2.1) (x.2.2.2.2.2.2.2.2.2.2.2.2.2.2.2.2.2.2.2.2.2.2.2.2.2.2.2.2.2.2.2.2.2.2.2.2.2.2.2.2.2.2.2.2.2.2.2.2.2.2.2.2.2.2.2.2.1) (x.2.2.2.2.2.2.2.2.2.2.2.2.2.2.2.2.2.2.2.2.2.2.2.2.2.2.2.2.2.2.2.2.2.2.2.2.2.2.2.2.2.2.2.2.2.2.2.2.2.2.2.2.2.2.2.2.2.1) (x.2.2.2.2.2.2.2.2.2.2.2.2.2.2.2.2.2.2.2.2.2.2.2.2.2.2.2.2.2.2.2.2.2.2.2.2.2.2.2.2.2.2.2.2.2.2.2.2.2.2.2.2.2.2.2.2.2.2.1) (x.2.2.2.2.2.2.2.2.2.2.2.2.2.2.2.2.2.2.2.2.2.2.2.2.2.2.2.2.2.2.2.2.2.2.2.2.2.2.2.2.2.2.2.2.2.2.2.2.2.2.2.2.2.2.2.2.2.2.2.1) (x.2.2.2.2.2.2.2.2.2.2.2.2.2.2.2.2.2.2.2.2.2.2.2.2.2.2.2.2.2.2.2.2.2.2.2.2.2.2.2.2.2.2.2.2.2.2.2.2.2.2.2.2.2.2.2.2.2.2.2.2.1) (x.2.2.2.2.2.2.2.2.2.2.2.2.2.2.2.2.2.2.2.2.2.2.2.2.2.2.2.2.2.2.2.2.2.2.2.2.2.2.2.2.2.2.2.2.2.2.2.2.2.2.2.2.2.2.2.2.2.2.2.2.2.1) (x.2.2.2.2.2.2.2.2.2.2.2.2.2.2.2.2.2.2.2.2.2.2.2.2.2.2.2.2.2.2.2.2.2.2.2.2.2.2.2.2.2.2.2.2.2.2.2.2.2.2.2.2.2.2.2.2.2.2.2.2.2.2.1) (x.2.2.2.2.2.2.2.2.2.2.2.2.2.2.2.2.2.2.2.2.2.2.2.2.2.2.2.2.2.2.2.2.2.2.2.2.2.2.2.2.2.2.2.2.2.2.2.2.2.2.2.2.2.2.2.2.2.2.2.2.2.2.2)
@[irreducible] noncomputable def w := cX.1
@[irreducible] noncomputable def p := cX.2.1
@[irreducible] noncomputable def loose := cX.2.2.1
@[irreducible] noncomputable def mean := cX.2.2.2.1
@[irreducible] noncomputable def mg := cX.2.2.2.2.1
@[irreducible] noncomputable def mb := cX.2.2.2.2.2.1
@[irreducible] noncomputable def n := cX.2.2.2.2.2.2.1
@[irreducible] noncomputable def dp := cX.2.2.2.2.2.2.2.1
@[irreducible] noncomputable def un := cX.2.2.2.2.2.2.2.2.1
@[irreducible] noncomputable def gd := cX.2.2.2.2.2.2.2.2.2.1
@[irreducible] noncomputable def a := cX.2.2.2.2.2.2.2.2.2.2.1
@[irreducible] noncomputable def outer := cX.2.2.2.2.2.2.2.2.2.2.2.1
@[irreducible] noncomputable def A₀ := cX.2.2.2.2.2.2.2.2.2.2.2.2.1
@[irreducible] noncomputable def base := cX.2.2.2.2.2.2.2.2.2.2.2.2.2.1
@[irreducible] noncomputable def h₀ := cX.2.2.2.2.2.2.2.2.2.2.2.2.2.2.1
@[irreducible] noncomputable def L := cX.2.2.2.2.2.2.2.2.2.2.2.2.2.2.2.1
@[irreducible] noncomputable def m := cX.2.2.2.2.2.2.2.2.2.2.2.2.2.2.2.2.1
@[irreducible] noncomputable def s := cX.2.2.2.2.2.2.2.2.2.2.2.2.2.2.2.2.2.1
@[irreducible] noncomputable def Q := cX.2.2.2.2.2.2.2.2.2.2.2.2.2.2.2.2.2.2.1
@[irreducible] noncomputable def E := cX.2.2.2.2.2.2.2.2.2.2.2.2.2.2.2.2.2.2.2.1
@[irreducible] noncomputable def cT := cX.2.2.2.2.2.2.2.2.2.2.2.2.2.2.2.2.2.2.2.2.1
@[irreducible] noncomputable def cO := cX.2.2.2.2.2.2.2.2.2.2.2.2.2.2.2.2.2.2.2.2.2.1
@[irreducible] noncomputable def cLt := cX.2.2.2.2.2.2.2.2.2.2.2.2.2.2.2.2.2.2.2.2.2.2.1
@[irreducible] noncomputable def cH := cX.2.2.2.2.2.2.2.2.2.2.2.2.2.2.2.2.2.2.2.2.2.2.2.1
@[irreducible] noncomputable def cE := cX.2.2.2.2.2.2.2.2.2.2.2.2.2.2.2.2.2.2.2.2.2.2.2.2.1
@[irreducible] noncomputable def cP := cX.2.2.2.2.2.2.2.2.2.2.2.2.2.2.2.2.2.2.2.2.2.2.2.2.2.1
@[irreducible] noncomputable def cC := cX.2.2.2.2.2.2.2.2.2.2.2.2.2.2.2.2.2.2.2.2.2.2.2.2.2.2.1
@[irreducible] noncomputable def cM := cX.2.2.2.2.2.2.2.2.2.2.2.2.2.2.2.2.2.2.2.2.2.2.2.2.2.2.2.1
@[irreducible] noncomputable def cJ := cX.2.2.2.2.2.2.2.2.2.2.2.2.2.2.2.2.2.2.2.2.2.2.2.2.2.2.2.2.1
@[irreducible] noncomputable def oT := cX.2.2.2.2.2.2.2.2.2.2.2.2.2.2.2.2.2.2.2.2.2.2.2.2.2.2.2.2.2.1
@[irreducible] noncomputable def oO := cX.2.2.2.2.2.2.2.2.2.2.2.2.2.2.2.2.2.2.2.2.2.2.2.2.2.2.2.2.2.2.1
@[irreducible] noncomputable def oLt := cX.2.2.2.2.2.2.2.2.2.2.2.2.2.2.2.2.2.2.2.2.2.2.2.2.2.2.2.2.2.2.2.1
@[irreducible] noncomputable def oH := cX.2.2.2.2.2.2.2.2.2.2.2.2.2.2.2.2.2.2.2.2.2.2.2.2.2.2.2.2.2.2.2.2.1
@[irreducible] noncomputable def oE := cX.2.2.2.2.2.2.2.2.2.2.2.2.2.2.2.2.2.2.2.2.2.2.2.2.2.2.2.2.2.2.2.2.2.1
@[irreducible] noncomputable def oP := cX.2.2.2.2.2.2.2.2.2.2.2.2.2.2.2.2.2.2.2.2.2.2.2.2.2.2.2.2.2.2.2.2.2.2.1
@[irreducible] noncomputable def oC := cX.2.2.2.2.2.2.2.2.2.2.2.2.2.2.2.2.2.2.2.2.2.2.2.2.2.2.2.2.2.2.2.2.2.2.2.1
@[irreducible] noncomputable def oM := cX.2.2.2.2.2.2.2.2.2.2.2.2.2.2.2.2.2.2.2.2.2.2.2.2.2.2.2.2.2.2.2.2.2.2.2.2.1
@[irreducible] noncomputable def jl := cX.2.2.2.2.2.2.2.2.2.2.2.2.2.2.2.2.2.2.2.2.2.2.2.2.2.2.2.2.2.2.2.2.2.2.2.2.2.1
@[irreducible] noncomputable def Dj := cX.2.2.2.2.2.2.2.2.2.2.2.2.2.2.2.2.2.2.2.2.2.2.2.2.2.2.2.2.2.2.2.2.2.2.2.2.2.2.1
@[irreducible] noncomputable def tm := cX.2.2.2.2.2.2.2.2.2.2.2.2.2.2.2.2.2.2.2.2.2.2.2.2.2.2.2.2.2.2.2.2.2.2.2.2.2.2.2.1
@[irreducible] noncomputable def tkc := cX.2.2.2.2.2.2.2.2.2.2.2.2.2.2.2.2.2.2.2.2.2.2.2.2.2.2.2.2.2.2.2.2.2.2.2.2.2.2.2.2.1
@[irreducible] noncomputable def oJ := cX.2.2.2.2.2.2.2.2.2.2.2.2.2.2.2.2.2.2.2.2.2.2.2.2.2.2.2.2.2.2.2.2.2.2.2.2.2.2.2.2.2.1
@[irreducible] noncomputable def c := cX.2.2.2.2.2.2.2.2.2.2.2.2.2.2.2.2.2.2.2.2.2.2.2.2.2.2.2.2.2.2.2.2.2.2.2.2.2.2.2.2.2.2.1
@[irreducible] noncomputable def n1 := cX.2.2.2.2.2.2.2.2.2.2.2.2.2.2.2.2.2.2.2.2.2.2.2.2.2.2.2.2.2.2.2.2.2.2.2.2.2.2.2.2.2.2.2.1
@[irreducible] noncomputable def n2 := cX.2.2.2.2.2.2.2.2.2.2.2.2.2.2.2.2.2.2.2.2.2.2.2.2.2.2.2.2.2.2.2.2.2.2.2.2.2.2.2.2.2.2.2.2.1
@[irreducible] noncomputable def ws := cX.2.2.2.2.2.2.2.2.2.2.2.2.2.2.2.2.2.2.2.2.2.2.2.2.2.2.2.2.2.2.2.2.2.2.2.2.2.2.2.2.2.2.2.2.2.1
@[irreducible] noncomputable def ns := cX.2.2.2.2.2.2.2.2.2.2.2.2.2.2.2.2.2.2.2.2.2.2.2.2.2.2.2.2.2.2.2.2.2.2.2.2.2.2.2.2.2.2.2.2.2.2.1
@[irreducible] noncomputable def od := cX.2.2.2.2.2.2.2.2.2.2.2.2.2.2.2.2.2.2.2.2.2.2.2.2.2.2.2.2.2.2.2.2.2.2.2.2.2.2.2.2.2.2.2.2.2.2.2.1
@[irreducible] noncomputable def hl2 := cX.2.2.2.2.2.2.2.2.2.2.2.2.2.2.2.2.2.2.2.2.2.2.2.2.2.2.2.2.2.2.2.2.2.2.2.2.2.2.2.2.2.2.2.2.2.2.2.2.1
@[irreducible] noncomputable def dl := cX.2.2.2.2.2.2.2.2.2.2.2.2.2.2.2.2.2.2.2.2.2.2.2.2.2.2.2.2.2.2.2.2.2.2.2.2.2.2.2.2.2.2.2.2.2.2.2.2.2.1
@[irreducible] noncomputable def fl := cX.2.2.2.2.2.2.2.2.2.2.2.2.2.2.2.2.2.2.2.2.2.2.2.2.2.2.2.2.2.2.2.2.2.2.2.2.2.2.2.2.2.2.2.2.2.2.2.2.2.2.1
@[irreducible] noncomputable def bll := cX.2.2.2.2.2.2.2.2.2.2.2.2.2.2.2.2.2.2.2.2.2.2.2.2.2.2.2.2.2.2.2.2.2.2.2.2.2.2.2.2.2.2.2.2.2.2.2.2.2.2.2.1
@[irreducible] noncomputable def pl := cX.2.2.2.2.2.2.2.2.2.2.2.2.2.2.2.2.2.2.2.2.2.2.2.2.2.2.2.2.2.2.2.2.2.2.2.2.2.2.2.2.2.2.2.2.2.2.2.2.2.2.2.2.1
@[irreducible] noncomputable def gl := cX.2.2.2.2.2.2.2.2.2.2.2.2.2.2.2.2.2.2.2.2.2.2.2.2.2.2.2.2.2.2.2.2.2.2.2.2.2.2.2.2.2.2.2.2.2.2.2.2.2.2.2.2.2.1
@[irreducible] noncomputable def oo := cX.2.2.2.2.2.2.2.2.2.2.2.2.2.2.2.2.2.2.2.2.2.2.2.2.2.2.2.2.2.2.2.2.2.2.2.2.2.2.2.2.2.2.2.2.2.2.2.2.2.2.2.2.2.2.1
@[irreducible] noncomputable def k1 := cX.2.2.2.2.2.2.2.2.2.2.2.2.2.2.2.2.2.2.2.2.2.2.2.2.2.2.2.2.2.2.2.2.2.2.2.2.2.2.2.2.2.2.2.2.2.2.2.2.2.2.2.2.2.2.2.1
@[irreducible] noncomputable def k2 := cX.2.2.2.2.2.2.2.2.2.2.2.2.2.2.2.2.2.2.2.2.2.2.2.2.2.2.2.2.2.2.2.2.2.2.2.2.2.2.2.2.2.2.2.2.2.2.2.2.2.2.2.2.2.2.2.2.1
@[irreducible] noncomputable def k3 := cX.2.2.2.2.2.2.2.2.2.2.2.2.2.2.2.2.2.2.2.2.2.2.2.2.2.2.2.2.2.2.2.2.2.2.2.2.2.2.2.2.2.2.2.2.2.2.2.2.2.2.2.2.2.2.2.2.2.1
@[irreducible] noncomputable def k4 := cX.2.2.2.2.2.2.2.2.2.2.2.2.2.2.2.2.2.2.2.2.2.2.2.2.2.2.2.2.2.2.2.2.2.2.2.2.2.2.2.2.2.2.2.2.2.2.2.2.2.2.2.2.2.2.2.2.2.2.1
@[irreducible] noncomputable def k5 := cX.2.2.2.2.2.2.2.2.2.2.2.2.2.2.2.2.2.2.2.2.2.2.2.2.2.2.2.2.2.2.2.2.2.2.2.2.2.2.2.2.2.2.2.2.2.2.2.2.2.2.2.2.2.2.2.2.2.2.2.1
@[irreducible] noncomputable def k6 := cX.2.2.2.2.2.2.2.2.2.2.2.2.2.2.2.2.2.2.2.2.2.2.2.2.2.2.2.2.2.2.2.2.2.2.2.2.2.2.2.2.2.2.2.2.2.2.2.2.2.2.2.2.2.2.2.2.2.2.2.2.1
@[irreducible] noncomputable def vh2 := cX.2.2.2.2.2.2.2.2.2.2.2.2.2.2.2.2.2.2.2.2.2.2.2.2.2.2.2.2.2.2.2.2.2.2.2.2.2.2.2.2.2.2.2.2.2.2.2.2.2.2.2.2.2.2.2.2.2.2.2.2.2.1
@[irreducible] noncomputable def vd := cX.2.2.2.2.2.2.2.2.2.2.2.2.2.2.2.2.2.2.2.2.2.2.2.2.2.2.2.2.2.2.2.2.2.2.2.2.2.2.2.2.2.2.2.2.2.2.2.2.2.2.2.2.2.2.2.2.2.2.2.2.2.2.1
@[irreducible] noncomputable def vf := cX.2.2.2.2.2.2.2.2.2.2.2.2.2.2.2.2.2.2.2.2.2.2.2.2.2.2.2.2.2.2.2.2.2.2.2.2.2.2.2.2.2.2.2.2.2.2.2.2.2.2.2.2.2.2.2.2.2.2.2.2.2.2.2
theorem core : StX w p loose mean mg mb n dp un gd a outer A₀ base h₀ L m s Q E cT cO cLt cH cE cP cC cM cJ oT oO oLt oH oE oP oC oM jl Dj tm tkc oJ c n1 n2 ws ns od hl2 dl fl bll pl gl oo k1 k2 k3 k4 k5 k6 vh2 vd vf := by
  unfold StX
  intro B F X T CH N d1 d2 d3 d4 d5 d6 d7 d8 d9 hws hns c0 c1 hDj hDc k0 k1' k2' k3' k4' k5' k6' k7 k8 k9 hdict hnd hown g3 g4 g5 hn0 hn5 hd hu ret
  unfold Pr at *
  refine wpAny_noRaise ?_
  rw [show lawRest 3 = _ :: lawRest 4 from rfl]
  rw [show lawScope = { kind := _, names := _, isGenerator := _, isCoroutine := _, more := _ } from rfl]
  revert X; k_fill; intro X
  have ecM := d8
  have ecJ := d9
  have ecO := d2
  have Nw := fun _ : Unit => N
  have N1 : News h₀ L s.heap [(cM, oM)] := news_sub N (fun p hp => by rw [List.mem_singleton.mp hp]; exact .tail _ (.tail _ (.tail _ (List.mem_append_left _ (by first | k_mem | simp)))))
  clear N
  repeat' ((fail_if_success (with_reducible show wpAny _ _ (exec (Stmt.For _ _ _ _ _) _) _ _ _)); (first | (k_unfold; (try dsimp only)) | walk1 | (dsimp only; walk1) | fail "no step"))
  (with_unfolding_all refine' For_invVF F ?kk1 ?kk2 ?_)
  case kk1 => exact rfl
  case kk2 => exact rfl
  repeat' ((fail_if_success (with_reducible show wpAny _ _ (pyIter _) _ _ _)); (first | (k_unfold; (try dsimp only)) | walk1 | (dsimp only; walk1) | fail "no step"))
  rename IsRange _ _ _ _ _ _ _ _ => hRg
  rename ∀ b o, Heap.get? _ b = some o → Heap.get? _ b = some o => kp0
  rename Fr _ _ _ _ => F2
  (repeat ((rename News _ _ _ _ => N2x); clear N2x))
  have hjl : ∀ b ∈ [od, hl2, dl, fl, bll, pl, gl], @LT.lt Nat _ cT b ∧ @LT.lt Nat _ jl b := fun b hb => ⟨by have := hown b hb; omega, hown b hb⟩
  have hnd' := hnd
  simp only [List.nodup_cons, List.mem_cons, List.not_mem_nil, or_false, not_or, not_false_eq_true, List.nodup_nil, and_true] at hnd'
  obtain ⟨⟨m1, m2, m3, m4, m5, m6⟩, ⟨m7, m8, m9, m10, m11⟩, ⟨m12, m13, m14, m15⟩, ⟨m16, m17, m18⟩, ⟨m19, m20⟩, m21⟩ := hnd'
  have lbl := (hjl bll (by first | k_mem | simp)).2
  have lpl := (hjl pl (by first | k_mem | simp)).2
  have hCO : ∀ p ∈ [(cT, oT), (cO, oO), (cLt, oLt), (cH, oH), (cE, oE), (cP, oP), (cC, oC), (cM, oM), (427, tabObj #[]), (cJ, oJ), (Dj, listOf ws.toArray n2)] ++ [(od, oo), (hl2, listOf vh2.toArray k1), (dl, listOf vd.toArray k2), (fl, listOf vf.toArray k3), (gl, listOf #[] k6)], p.1 ≠ jl ∧ p.1 ≠ bll ∧ p.1 ≠ pl := fun p hp => by
    rcases List.mem_append.mp hp with hp | hp
    · replace hp := mem_ors hp
      rcases hp with rfl | rfl | rfl | rfl | rfl | rfl | rfl | rfl | rfl | rfl | rfl <;> (refine ⟨?_, ?_, ?_⟩ <;> (show ¬ @Eq Nat _ _) <;> omega)
    · replace hp := mem_ors hp
      rcases hp with rfl | rfl | rfl | rfl | rfl
      · exact ⟨Ne.symm (Nat.ne_of_lt (hjl _ (by first | k_mem | simp)).2), m4, m5⟩
      · exact ⟨Ne.symm (Nat.ne_of_lt (hjl _ (by first | k_mem | simp)).2), m9, m10⟩
      · exact ⟨Ne.symm (Nat.ne_of_lt (hjl _ (by first | k_mem | simp)).2), m13, m14⟩
      · exact ⟨Ne.symm (Nat.ne_of_lt (hjl _ (by first | k_mem | simp)).2), m16, m17⟩
      · exact ⟨Ne.symm (Nat.ne_of_lt (hjl _ (by first | k_mem | simp)).2), fun e => m20 e.symm, fun e => m21 e.symm⟩
  refine iter_rangeN (n := n) (R := fun i (_ : Unit) nx => ∃ (c' : Int) (t' : Tok) (vb : List Value) (b4 : Nat) (vp : List Value) (b5 : Nat) (q : Nat → Addr) (pv : Nat → List Value) (cq : Nat → Nat) (bls : List Bool) (pn : Nat → List Int),
      nx = (jl, listOf #[.ref Dj, .int c' t'] n1) :: (bll, listOf vb.toArray b4) :: (pl, listOf vp.toArray b5) :: (([(cT, oT), (cO, oO), (cLt, oLt), (cH, oH), (cE, oE), (cP, oP), (cC, oC), (cM, oM), (427, tabObj #[]), (cJ, oJ), (Dj, listOf ws.toArray n2)] ++ [(od, oo), (hl2, listOf vh2.toArray k1), (dl, listOf vd.toArray k2), (fl, listOf vf.toArray k3), (gl, listOf #[] k6)]) ++ pls i q pv cq) ∧ 0 ≤ c' ∧ c' ≤ 10 + 4 * (i : Int) ∧ BoolsAre vb bls ∧ bls.length = i ∧ vp = (List.range i).map (fun j => Value.ref (q j)) ∧
      (∀ j, j < i → IntsAre (pv j) (pn j) ∧ (∀ x ∈ pn j, 0 ≤ x ∧ x < (n : Int)) ∧ ∀ b ∈ jl :: bll :: pl :: ([(cT, oT), (cO, oO), (cLt, oLt), (cH, oH), (cE, oE), (cP, oP), (cC, oC), (cM, oM), (427, tabObj #[]), (cJ, oJ), (Dj, listOf ws.toArray n2)] ++ [(od, oo), (hl2, listOf vh2.toArray k1), (dl, listOf vd.toArray k2), (fl, listOf vf.toArray k3), (gl, listOf #[] k6)]).map (·.1), @Ne Nat (q j) b)) (fun _ _ => ()) () (by rfl) hRg (rng_small hn5) (rng_size hn5) F2 (fun p hp => ⟨kp0 _ _ ((Nw ()) p hp).1, ((Nw ()) p hp).2⟩)
      ⟨c, tkc, [], k4, [], k5, fun _ => 0, fun _ => [], fun _ => 0, [], fun _ => [], by simp only [pls, List.range_zero, List.map_nil, List.append_nil], c0, by omega, .nil, rfl, rfl, fun j h => absurd h (Nat.not_lt_zero _)⟩ ?_ ?_
  · rintro i t _ nx I it h tk hi ⟨c', t', vb, b4, vp, b5, q, pv, cq, bls, pn, rfl, e1, e2, e3, e4, rfl, e5⟩ hoffI F3 N3
    obtain ⟨Z, hZd⟩ : ∃ Z, Z = (I, it) :: (([(cT, oT), (cO, oO), (cLt, oLt), (cH, oH), (cE, oE), (cP, oP), (cC, oC), (cM, oM), (427, tabObj #[]), (cJ, oJ), (Dj, listOf ws.toArray n2)] ++ [(od, oo), (hl2, listOf vh2.toArray k1), (dl, listOf vd.toArray k2), (fl, listOf vf.toArray k3), (gl, listOf #[] k6)]) ++ pls i q pv cq) := ⟨_, rfl⟩
    have hlv : vb.length = i := by rw [← e4]; exact e3.length
    have hZ : ∀ p ∈ Z, p.1 ≠ jl ∧ p.1 ≠ bll ∧ p.1 ≠ pl := fun p hp => by
      rw [hZd] at hp
      rcases List.mem_cons.mp hp with rfl | hp
      · exact ⟨Ne.symm (hoffI _ (.head _)), Ne.symm (hoffI (bll, listOf vb.toArray b4) (.tail _ (.head _))), Ne.symm (hoffI (pl, _) (.tail _ (.tail _ (.head _))))⟩
      rcases List.mem_append.mp hp with hp | hp
      · exact hCO p hp
      · obtain ⟨j, hj, rfl⟩ := List.mem_map.mp hp
        obtain ⟨_, _, h3⟩ := e5 j (List.mem_range.mp hj)
        exact ⟨h3 jl (by first | k_mem | simp), h3 bll (by first | k_mem | simp), h3 pl (by first | k_mem | simp)⟩
    have hZm : ∀ p ∈ [(cO, oO), (cJ, oJ), (cM, oM), (od, oo)], p ∈ Z := fun p hp => by
      rw [hZd]
      refine .tail _ (List.mem_append_left _ ?_)
      replace hp := mem_ors hp
      rcases hp with rfl | rfl | rfl | rfl <;> simp
    have hZD : (Dj, listOf ws.toArray n2) ∈ Z := by rw [hZd]; exact .tail _ (List.mem_append_left _ (List.mem_append_left _ (by first | k_mem | simp)))
    have N4 : Unit → News h₀ L h ((jl, listOf #[.ref Dj, .int c' t'] n1) :: (bll, listOf vb.toArray b4) :: (pl, listOf ((List.range i).map (fun j => Value.ref (q j))).toArray b5) :: Z) := fun _ p hp => N3 p (by
      rw [hZd] at hp
      rcases List.mem_cons.mp hp with rfl | hp
      · exact .tail _ (.head _)
      rcases List.mem_cons.mp hp with rfl | hp
      · exact .tail _ (.tail _ (.head _))
      rcases List.mem_cons.mp hp with rfl | hp
      · exact .tail _ (.tail _ (.tail _ (.head _)))
      rcases List.mem_cons.mp hp with rfl | hp
      · exact .head _
      · exact .tail _ (.tail _ (.tail _ (.tail _ hp))))
    have small : ∀ (hh : Heap) (cc : Int) (tt : Tok) (vb : List Value) (b4 : Nat) (vp : List Value) (b5 : Nat), News h₀ L hh ((jl, listOf #[.ref Dj, .int cc tt] n1) :: (bll, listOf vb.toArray b4) :: (pl, listOf vp.toArray b5) :: Z) → News h₀ L hh [(cO, oO), (cJ, oJ), (cM, oM), (od, oo), (bll, listOf vb.toArray b4), (pl, listOf vp.toArray b5)] := fun hh cc tt vb b4 vp b5 Nh p hp => by
      replace hp := mem_ors hp
      rcases hp with rfl | rfl | rfl | rfl | rfl | rfl
      · exact Nh _ (.tail _ (.tail _ (.tail _ (hZm _ (by first | k_mem | simp)))))
      · exact Nh _ (.tail _ (.tail _ (.tail _ (hZm _ (by first | k_mem | simp)))))
      · exact Nh _ (.tail _ (.tail _ (.tail _ (hZm _ (by first | k_mem | simp)))))
      · exact Nh _ (.tail _ (.tail _ (.tail _ (hZm _ (by first | k_mem | simp)))))
      · exact Nh _ (.tail _ (.head _))
      · exact Nh _ (.tail _ (.tail _ (.head _)))
    have N5 := small _ _ _ _ _ _ _ (N4 ())
    have hZb : ∀ p ∈ (I, it) :: (([(cT, oT), (cO, oO), (cLt, oLt), (cH, oH), (cE, oE), (cP, oP), (cC, oC), (cM, oM), (427, tabObj #[]), (cJ, oJ), (Dj, listOf ws.toArray n2)] ++ [(od, oo), (hl2, listOf vh2.toArray k1), (dl, listOf vd.toArray k2), (fl, listOf vf.toArray k3), (gl, listOf #[] k6)]) ++ pls i q pv cq), p ∈ Z := fun p hp => hZd ▸ hp
    clear N3 hZd
    (try k_fold)
    repeat' ((fail_if_success (with_reducible show wpAny _ _ (call (Value.ref 406) _) _ _ _)); (first | (k_unfold; (try dsimp only)) | walk1 | (dsimp only; walk1) | fail "no step"))
    (try dsimp only)
    clear N5
    have NW := N4 ()
    k_dflt (refine' pour_in (Dj := Dj) (ws := ws) (n2 := n2) B F3 X NW (.head _) (.tail _ (.tail _ (.tail _ hZD))) T ?k5 hDj hws hns e1 (by omega) (by omega) (by omega) ?kd ?ku ?_)
    case k5 => rfl
    case kd => ktr_room
    case ku => ktr_units
    intro h6 tk6 t6 v6 t7 F6 keep6 Nj6 b1 b2
    have N6w : Unit → News h₀ L h6 ((jl, listOf #[.ref Dj, .int (c' + 1) t6] n1) :: (bll, listOf vb.toArray b4) :: (pl, listOf ((List.range i).map (fun j => Value.ref (q j))).toArray b5) :: Z) := fun _ p hp => by
      rcases List.mem_cons.mp hp with rfl | hp
      · exact Nj6 _ (.head _)
      refine keep6 p (.tail _ hp) ?_
      rcases List.mem_cons.mp hp with rfl | hp
      · exact Ne.symm (Nat.ne_of_lt lbl)
      rcases List.mem_cons.mp hp with rfl | hp
      · exact Ne.symm (Nat.ne_of_lt lpl)
      · exact (hZ p hp).1
    have N6 := small _ _ _ _ _ _ _ (N6w ())
    clear NW F3 Nj6 keep6
    (try dsimp only)
    (try k_fold)
    repeat' ((fail_if_success (with_reducible show wpAny _ _ (call (Value.builtin "list.append") _) _ _ _)); (first | (k_unfold; (try dsimp only)) | walk1 | (dsimp only; walk1) | fail "no step"))
    have NW6 := N6w ()
    clear N6
    refine append_in F6 NW6 (.tail _ (.head _)) (by omega) fun h8 F8 keep8 Nb8 => ?_
    have N8w : Unit → News h₀ L h8 ((jl, listOf #[.ref Dj, .int (c' + 1) t6] n1) :: (bll, listOf (vb ++ [Value.bool (decide (0 < v6))]).toArray (b4 + 1)) :: (pl, listOf ((List.range i).map (fun j => Value.ref (q j))).toArray b5) :: Z) := fun _ p hp => by
      rcases List.mem_cons.mp hp with rfl | hp
      · exact keep8 _ (.head _) (Nat.ne_of_lt lbl)
      rcases List.mem_cons.mp hp with rfl | hp
      · exact Nb8 _ (.head _)
      rcases List.mem_cons.mp hp with rfl | hp
      · exact keep8 _ (.tail _ (.tail _ (.head _))) (Ne.symm m19)
      · exact keep8 p (.tail _ (.tail _ (.tail _ hp))) (hZ p hp).2.1
    have N8 := small _ _ _ _ _ _ _ (N8w ())
    clear NW6 F6 keep8 Nb8
    (try dsimp only)
    (try k_fold)
    repeat' ((fail_if_success (with_reducible show wpAny _ _ (call (Value.ref 406) _) _ _ _)); (first | (k_unfold; (try dsimp only)) | walk1 | (dsimp only; walk1) | fail "no step"))
    (try dsimp only)
    clear N8
    have NW8 := N8w ()
    k_dflt (refine' pour_in (Dj := Dj) (ws := ws) (n2 := n2) B F8 X NW8 (.head _) (.tail _ (.tail _ (.tail _ hZD))) T ?k5 hDj hws hns (by omega) (by omega) (by omega) (by omega) ?kd ?ku ?_)
    case k5 => rfl
    case kd => ktr_room
    case ku => ktr_units
    intro h10 tk10 t10 v10 t11 F10 keep10 Nj10 b3 b4'
    obtain ⟨kk, rfl⟩ : ∃ kk : Nat, v10 = (kk : Int) := ⟨v10.toNat, by omega⟩
    have hkk : kk ≤ 5 := by omega
    have hWj : ∀ p ∈ (bll, listOf (vb ++ [Value.bool (decide (0 < v6))]).toArray (b4 + 1)) :: (pl, listOf ((List.range i).map (fun j => Value.ref (q j))).toArray b5) :: Z, p.1 ≠ jl := fun p hp => by
      rcases List.mem_cons.mp hp with rfl | hp
      · exact Ne.symm (Nat.ne_of_lt lbl)
      rcases List.mem_cons.mp hp with rfl | hp
      · exact Ne.symm (Nat.ne_of_lt lpl)
      · exact (hZ p hp).1
    have N10w : Unit → News h₀ L h10 ((jl, listOf #[.ref Dj, .int (c' + 1 + 1) t10] n1) :: (bll, listOf (vb ++ [Value.bool (decide (0 < v6))]).toArray (b4 + 1)) :: (pl, listOf ((List.range i).map (fun j => Value.ref (q j))).toArray b5) :: Z) := fun _ p hp => by
      rcases List.mem_cons.mp hp with rfl | hp
      · exact Nj10 _ (.head _)
      · exact keep10 p (.tail _ hp) (hWj p hp)
    have N10 := small _ _ _ _ _ _ _ (N10w ())
    clear NW8 F8 Nj10 keep10
    (try dsimp only)
    (try k_fold)
    repeat' ((fail_if_success (with_reducible show LCg.CompSrc _ _ _ _ _ _ _ _ _ _ _ _ _ _)); (first | (k_unfold; (try dsimp only)) | walk1 | (dsimp only; walk1) | fail "no step"))
    rename IsRange _ _ _ _ _ _ _ _ => hRg2
    rename ∀ b o, Heap.get? _ b = some o → Heap.get? _ b = some o => kp2
    rename Fr _ _ _ _ => F12
    have N12 : News h₀ L _ ((jl, listOf #[.ref Dj, .int (c' + 1 + 1) t10] n1) :: (bll, listOf (vb ++ [Value.bool (decide (0 < v6))]).toArray (b4 + 1)) :: (pl, listOf ((List.range i).map (fun j => Value.ref (q j))).toArray b5) :: Z) := fun p hp => ⟨kp2 _ _ ((N10w ()) p hp).1, ((N10w ()) p hp).2⟩
    k_dflt (refine' LCg.CompSrc.range (n := kk) ?hh F12 N12 hRg2 (rng_small hkk) (rng_size hkk) ?zz ?_)
    case hh => rfl
    case zz => rw [PySem.sizeLine_eq]; omega
    intro gh
    (repeat ((rename News _ _ _ _ => N2x); clear N2x))
    refine comp_inv (fun i2 ys nx => ∃ (c2 : Int) (t2 : Tok) (qs : List Int), nx = (jl, listOf #[.ref Dj, .int c2 t2] n1) :: (bll, listOf (vb ++ [Value.bool (decide (0 < v6))]).toArray (b4 + 1)) :: (pl, listOf ((List.range i).map (fun j => Value.ref (q j))).toArray b5) :: Z ∧ 0 ≤ c2 ∧ c2 ≤ c' + 2 + (i2 : Int) ∧ IntsAre ys qs ∧ qs.length = i2 ∧ ∀ x ∈ qs, 0 ≤ x ∧ x < (n : Int)) ?_ ⟨c' + 1 + 1, t10, [], rfl, by omega, by omega, .nil, rfl, fun _ h => nomatch h⟩ ?_
    · rintro i2 v2 I2 oI2 C oC' D m₂ ys nx h2 tk2 E' hi2 ⟨t, rfl⟩ ⟨c2, t2, qs, rfl, f1, f2, f3, f4, f5⟩ hC hx F2 N2 off ne2
      have N2w := fun _ : Unit => N2
      have N3 : News h₀ L h2 [(cM, oM), (cJ, oJ)] := fun p hp => N2 p (.tail _ (.tail _ (.tail _ (.tail _ (.tail _ (.tail _ (hZm _ (by
        replace hp := mem_ors hp
        rcases hp with rfl | rfl <;> first | k_mem | simp))))))))
      clear N2
      (try k_fold)
      repeat' ((fail_if_success (with_reducible show wpAny _ _ (call (Value.ref 406) _) _ _ _)); (first | (k_unfold; (try dsimp only)) | walk1 | (dsimp only; walk1) | fail "no step"))
      (try dsimp only)
      have NW := N2w ()
      clear N3
      have off2 := off.mem
      k_dflt (refine' pour_in (Dj := Dj) (ws := ws) (n2 := n2) B F2 X NW (.tail _ (.tail _ (.tail _ (.head _)))) (.tail _ (.tail _ (.tail _ (.tail _ (.tail _ (.tail _ hZD)))))) T ?k5 hDj hws hns f1 (by omega) (by omega) (by omega) ?kd ?ku ?_)
      case k5 => rfl
      case kd => ktr_room
      case ku => ktr_units
      intro h3 tk3 t3 v3 t4 F3 keep Nj b5' b6
      refine ⟨h3, tk3, (jl, listOf #[.ref Dj, .int (c2 + 1) t3] n1) :: (bll, listOf (vb ++ [Value.bool (decide (0 < v6))]).toArray (b4 + 1)) :: (pl, listOf ((List.range i).map (fun j => Value.ref (q j))).toArray b5) :: Z, rfl, F3, fun p hp => ?_, LCg.Off3.of fun p hp => ?_, trivial, c2 + 1, t3, qs ++ [v3], rfl, by omega, by omega, IntsAre.append f3 (.cons v3 t4 .nil), by rw [List.length_append, f4]; rfl, fun x hx => ?_⟩
      · obtain ⟨a1, a2, a3⟩ := off2 _ (.head _)
        rcases List.mem_cons.mp hp with rfl | hp
        · exact keep _ (.head _) (Ne.symm a1)
        rcases List.mem_cons.mp hp with rfl | hp
        · exact keep _ (.tail _ (.head _)) (Ne.symm a2)
        rcases List.mem_cons.mp hp with rfl | hp
        · exact keep _ (.tail _ (.tail _ (.head _))) (Ne.symm a3)
        rcases List.mem_cons.mp hp with rfl | hp
        · exact Nj _ (.head _)
        · exact keep p (.tail _ (.tail _ (.tail _ (.tail _ hp)))) (hWj p hp)
      · rcases List.mem_cons.mp hp with rfl | hp
        · exact off2 (jl, listOf #[.ref Dj, .int c2 t2] n1) (.head _)
        · exact off2 p (.tail _ hp)
      · rcases List.mem_append.mp hx with hx | hx
        · exact f5 x hx
        · rw [List.mem_singleton.mp hx]; exact ⟨b5', b6⟩
    · rintro ys nx ⟨c2, t2, qs, rfl, f1, f2, f3, f4, f5⟩
      unfold LCg.FinE
      intro D' hD tkD F13 N13 o1
      have o2 := off1_mem o1
      have N13w := fun _ : Unit => N13
      have N13s := small _ _ _ _ _ _ _ (fun p hp => N13 p (.tail _ hp))
      clear N13 o1 F12
      (try dsimp only)
      (try k_fold)
      repeat' ((fail_if_success (with_reducible show wpAny _ _ (call (Value.builtin "list.append") _) _ _ _)); (first | (k_unfold; (try dsimp only)) | walk1 | (dsimp only; walk1) | fail "no step"))
      have N14 := N13w ()
      clear N13s
      refine append_in F13 N14 (.tail _ (.tail _ (.tail _ (.head _)))) (by simp only [List.length_map, List.length_range]; omega) fun h14 F14 keep14 Np14 => ?_
      have hDpl : D' ≠ pl := Ne.symm (o2 (pl, _) (.tail _ (.tail _ (.head _))))
      have NF : Unit → (∀ p ∈ (D', LCg.lst ys) :: (jl, listOf #[.ref Dj, .int c2 t2] n1) :: (bll, listOf (vb ++ [Value.bool (decide (0 < v6))]).toArray (b4 + 1)) :: Z, h14.get? p.1 = some p.2 ∧ p.1 ≠ L ∧ h₀.get? p.1 = none) ∧ News h₀ L h14 [(pl, listOf ((List.range i).map (fun j => Value.ref (q j)) ++ [Value.ref D']).toArray (b5 + 1))] := fun _ => ⟨fun p hp => by
        rcases List.mem_cons.mp hp with rfl | hp
        · exact keep14 _ (.head _) hDpl
        rcases List.mem_cons.mp hp with rfl | hp
        · exact keep14 _ (.tail _ (.head _)) (Nat.ne_of_lt lpl)
        rcases List.mem_cons.mp hp with rfl | hp
        · exact keep14 _ (.tail _ (.tail _ (.head _))) m19
        · exact keep14 p (.tail _ (.tail _ (.tail _ (.tail _ hp)))) (hZ p hp).2.2, Np14⟩
      clear N14 F13 keep14 Np14
      (try dsimp only)
      (try k_fold)
      repeat' (first | (k_unfold; (try dsimp only)) | walk1 | (dsimp only; walk1) | fail "no step")
      obtain ⟨NA, NP⟩ := NF ()
      have hID : I ≠ D' := o2 (I, it) (.tail _ (.tail _ (.tail _ (hZb _ (.head _)))))
      refine ⟨h14, _, _, (jl, listOf #[.ref Dj, .int c2 t2] n1) :: (bll, listOf (vb ++ [Value.bool (decide (0 < v6))]).toArray (b4 + 1)) :: (pl, listOf ((List.range i).map (fun j => Value.ref (q j)) ++ [Value.ref D']).toArray (b5 + 1)) :: (([(cT, oT), (cO, oO), (cLt, oLt), (cH, oH), (cE, oE), (cP, oP), (cC, oC), (cM, oM), (427, tabObj #[]), (cJ, oJ), (Dj, listOf ws.toArray n2)] ++ [(od, oo), (hl2, listOf vh2.toArray k1), (dl, listOf vd.toArray k2), (fl, listOf vf.toArray k3), (gl, listOf #[] k6)]) ++ pls (i + 1) (upF q i D') (upF pv i ys) (upF cq i ys.length)), rfl, F14, fun p hp => ?_, fun p hp => ?_, c2, t2, (vb ++ [Value.bool (decide (0 < v6))]), b4 + 1, _, b5 + 1, upF q i D', upF pv i ys, upF cq i ys.length, bls ++ [decide (0 < v6)], upF pn i qs, rfl, f1, by omega, kbo_app e3 (.cons _ .nil), by rw [List.length_append, e4]; rfl, ?_, fun j hj => ?_⟩
      · rcases List.mem_cons.mp hp with rfl | hp
        · exact NA _ (.tail _ (.tail _ (.tail _ (hZb _ (.head _)))))
        rcases List.mem_cons.mp hp with rfl | hp
        · exact NA _ (.tail _ (.head _))
        rcases List.mem_cons.mp hp with rfl | hp
        · exact NA _ (.tail _ (.tail _ (.head _)))
        rcases List.mem_cons.mp hp with rfl | hp
        · exact NP _ (.head _)
        rcases List.mem_append.mp hp with hp | hp
        · exact NA p (.tail _ (.tail _ (.tail _ (hZb _ (.tail _ (List.mem_append_left _ hp))))))
        rcases pls_step hp with hp | rfl
        · exact NA p (.tail _ (.tail _ (.tail _ (hZb _ (.tail _ (List.mem_append_right _ hp))))))
        · exact NA _ (.head _)
      · rcases List.mem_cons.mp hp with rfl | hp
        · exact hoffI (jl, listOf #[.ref Dj, .int c' t'] n1) (.head _)
        rcases List.mem_cons.mp hp with rfl | hp
        · exact hoffI (bll, listOf vb.toArray b4) (.tail _ (.head _))
        rcases List.mem_cons.mp hp with rfl | hp
        · exact hoffI (pl, listOf ((List.range i).map (fun j => Value.ref (q j))).toArray b5) (.tail _ (.tail _ (.head _)))
        rcases List.mem_append.mp hp with hp | hp
        · exact hoffI p (.tail _ (.tail _ (.tail _ (List.mem_append_left _ hp))))
        rcases pls_step hp with hp | rfl
        · exact hoffI p (.tail _ (.tail _ (.tail _ (List.mem_append_right _ hp))))
        · exact Ne.symm hID
      · rw [List.range_succ, List.map_append, List.map_cons, List.map_nil, upF_self]
        congr 1
        refine List.map_congr_left fun j hj => ?_
        rw [upF_ne (Nat.ne_of_lt (List.mem_range.mp hj))]
      · by_cases e : j = i
        · subst e
          simp only [upF_self]
          refine ⟨f3, f5, fun b hb => ?_⟩
          rcases List.mem_cons.mp hb with rfl | hb
          · exact Ne.symm (o2 _ (.head _))
          rcases List.mem_cons.mp hb with rfl | hb
          · exact Ne.symm (o2 _ (.tail _ (.head _)))
          rcases List.mem_cons.mp hb with rfl | hb
          · exact hDpl
          · obtain ⟨p, hp, rfl⟩ := List.mem_map.mp hb
            exact Ne.symm (o2 p (.tail _ (.tail _ (.tail _ (hZb _ (.tail _ (List.mem_append_left _ hp)))))))
        · simp only [upF_ne e]
          exact e5 j (by omega)
  · rintro v nx h tk ⟨c', t', vb, b4, vp, b5, q, pv, cq, bls, pn, rfl, e1, e2, e3, e4, rfl, e5⟩ F3 N3
    (try dsimp only)
    have qn : ∀ j, j < n → ∀ b ∈ jl :: bll :: pl :: ([(cT, oT), (cO, oO), (cLt, oLt), (cH, oH), (cE, oE), (cP, oP), (cC, oC), (cM, oM), (427, tabObj #[]), (cJ, oJ), (Dj, listOf ws.toArray n2)] ++ [(od, oo), (hl2, listOf vh2.toArray k1), (dl, listOf vd.toArray k2), (fl, listOf vf.toArray k3), (gl, listOf #[] k6)]).map (·.1), @Ne Nat (q j) b := fun j hj => (e5 j hj).2.2
    have gD : ∀ j, j < n → (List.replicate n true).getD j false = true := fun j hj => by simp [List.getD_eq_getElem?_getD, List.getElem?_replicate, hj]
    have gF : ∀ j, (List.replicate n false).getD j false = false := fun j => by
      simp only [List.getD_eq_getElem?_getD, List.getElem?_replicate]
      split <;> rfl
    have hpn : ∀ j, j < n → ((List.range n).map pn).getD j [] = pn j := fun j hj => by simp [List.getD_eq_getElem?_getD, hj]
    have OW : OwnOk w ⟨od, hl2, dl, fl, bll, pl, gl, oo, vb, (List.range n).map (fun j => Value.ref (q j)), k1, k2, k3, b4, b5⟩ ((List.range n).map pn) bls n := ⟨hdict, hnd, e3, e4, (fun k x hx => by
      by_cases hk : k < n
      · rw [hpn k hk] at hx; exact (e5 k hk).2.1 x hx
      · have : ((List.range n).map pn).getD k [] = [] := by simp [List.getD_eq_getElem?_getD, hk]
        rw [this] at hx; exact (nomatch hx)), hn5⟩
    refine law_mk4 (o := ⟨od, hl2, dl, fl, bll, pl, gl, oo, vb, (List.range n).map (fun j => Value.ref (q j)), k1, k2, k3, b4, b5⟩) OW (by first | k_mem | simp) (c6 := k6) (n1 := n1) (n2 := n2) (tkc := t') (vh2 := vh2) (vd := vd) (vf := vf) (q := q) (cq := cq) (pv := pv) (S := ⟨List.replicate n true, List.replicate n false, List.replicate n false, []⟩)
      (R := OwnA.ex ⟨od, hl2, dl, fl, bll, pl, gl, oo, vb, (List.range n).map (fun j => Value.ref (q j)), k1, k2, k3, b4, b5⟩ vh2 vd vf [] k6 ++ pls n q pv cq) B F3 X T CH (fun p hp => ?kN) d1 d2 d3 d4 d5 d6 d7 d8 d9 hws hns e1 (by omega) hDj hDc (fun p hp => ?kJ) k0 k1' k2' k3' k4' k5' k6' k7 k8 k9 (fun p hp => ?kR) (fun p hp => List.mem_append_left _ hp) (fun j hj => List.mem_append_right _ (List.mem_map.mpr ⟨j, List.mem_range.mpr hj, rfl⟩)) (fun j hj => ?kq) (fun j hj => ⟨by simp only [List.getElem?_map, List.getElem?_range hj, Option.map_some], by rw [hpn j hj]; exact (e5 j hj).1⟩)
      rfl g3 g4 g5 rfl ⟨by simp, by simp, by simp, by simp⟩ (fun j hj => ⟨gD j hj, gF j, gF j⟩) hn0 hd hu fun h' tk' m' F' => ret _ _ _ F'
    case kq =>
      intro hm
      have hm : q j ∈ [od, hl2, dl, fl, bll, pl, gl] := hm
      replace hm := mem_ors hm
      rcases hm with e | e | e | e | e | e | e
      · exact qn j hj od (by first | k_mem | simp) e
      · exact qn j hj hl2 (by first | k_mem | simp) e
      · exact qn j hj dl (by first | k_mem | simp) e
      · exact qn j hj fl (by first | k_mem | simp) e
      · exact qn j hj bll (by first | k_mem | simp) e
      · exact qn j hj pl (by first | k_mem | simp) e
      · exact qn j hj gl (by first | k_mem | simp) e
    case kJ =>
      rcases List.mem_append.mp hp with hp | hp
      · have hb : p.1 ∈ [od, hl2, dl, fl, bll, pl, gl] := by
          replace hp := mem_ors hp
          rcases hp with rfl | rfl | rfl | rfl | rfl | rfl | rfl <;> simp
        exact Ne.symm (Nat.ne_of_lt (hjl _ hb).2)
      · obtain ⟨j, hj, rfl⟩ := List.mem_map.mp hp
        exact qn j (List.mem_range.mp hj) jl (by first | k_mem | simp)
    case kR =>
      rcases List.mem_append.mp hp with hp | hp
      · have hb : p.1 ∈ [od, hl2, dl, fl, bll, pl, gl] := by
          replace hp := mem_ors hp
          rcases hp with rfl | rfl | rfl | rfl | rfl | rfl | rfl <;> simp
        have h1 := (hjl _ hb).1
        intro hm
        replace hm := mem_ors hm
        rcases hm with e | e | e | e | e | e | e | e | e <;> (rw [e] at h1; omega)
      · obtain ⟨j, hj, rfl⟩ := List.mem_map.mp hp
        intro hm
        have hm : q j ∈ [cT, cO, cLt, cH, cE, cP, cC, cM, 427] := hm
        replace hm := mem_ors hm
        have hj := List.mem_range.mp hj
        rcases hm with e | e | e | e | e | e | e | e | e
        · exact qn j hj cT (by first | k_mem | simp) e
        · exact qn j hj cO (by first | k_mem | simp) e
        · exact qn j hj cLt (by first | k_mem | simp) e
        · exact qn j hj cH (by first | k_mem | simp) e
        · exact qn j hj cE (by first | k_mem | simp) e
        · exact qn j hj cP (by first | k_mem | simp) e
        · exact qn j hj cC (by first | k_mem | simp) e
        · exact qn j hj cM (by first | k_mem | simp) e
        · exact qn j hj 427 (by first | k_mem | simp) e
    case kN =>
      rcases List.mem_cons.mp hp with rfl | hp
      · exact N3 _ (.head _)
      rcases List.mem_append.mp hp with hp | hp
      · exact N3 p (.tail _ (.tail _ (.tail _ (List.mem_append_left _ (List.mem_append_left _ hp)))))
      rcases List.mem_append.mp hp with hp | hp
      · replace hp := mem_ors hp
        rcases hp with rfl | rfl | rfl | rfl | rfl | rfl | rfl
        · exact N3 _ (.tail _ (.tail _ (.tail _ (List.mem_append_left _ (List.mem_append_right _ (.head _))))))
        · exact N3 _ (.tail _ (.tail _ (.tail _ (List.mem_append_left _ (List.mem_append_right _ (.tail _ (.head _)))))))
        · exact N3 _ (.tail _ (.tail _ (.tail _ (List.mem_append_left _ (List.mem_append_right _ (.tail _ (.tail _ (.head _))))))))
        · exact N3 _ (.tail _ (.tail _ (.tail _ (List.mem_append_left _ (List.mem_append_right _ (.tail _ (.tail _ (.tail _ (.head _)))))))))
        · exact N3 _ (.tail _ (.head _))
        · exact N3 _ (.tail _ (.tail _ (.head _)))
        · exact N3 _ (.tail _ (.tail _ (.tail _ (List.mem_append_left _ (List.mem_append_right _ (.tail _ (.tail _ (.tail _ (.tail _ (.head _))))))))))
      · exact N3 p (.tail _ (.tail _ (.tail _ (List.mem_append_right _ hp))))
theorem all (x : XX) : StX (x.1) (x.2.1) (x.2.2.1) (x.2.2.2.1) (x.2.2.2.2.1) (x.2.2.2.2.2.1) (x.2.2.2.2.2.2.1) (x.2.2.2.2.2.2.2.1) (x.2.2.2.2.2.2.2.2.1) (x.2.2.2.2.2.2.2.2.2.1) (x.2.2.2.2.2.2.2.2.2.2.1) (x.2.2.2.2.2.2.2.2.2.2.2.1) (x.2.2.2.2.2.2.2.2.2.2.2.2.1) (x.2.2.2.2.2.2.2.2.2.2.2.2.2.1) (x.2.2.2.2.2.2.2.2.2.2.2.2.2.2.1) (x.2.2.2.2.2.2.2.2.2.2.2.2.2.2.2.1) (x.2.2.2.2.2.2.2.2.2.2.2.2.2.2.2.2.1) (x.2.2.2.2.2.2.2.2.2.2.2.2.2.2.2.2.2.1) (x.2.2.2.2.2.2.2.2.2.2.2.2.2.2.2.2.2.2.1) (x.2.2.2.2.2.2.2.2.2.2.2.2.2.2.2.2.2.2.2.1) (x.2.2.2.2.2.2.2.2.2.2.2.2.2.2.2.2.2.2.2.2.1) (x.2.2.2.2.2.2.2.2.2.2.2.2.2.2.2.2.2.2.2.2.2.1) (x.2.2.2.2.2.2.2.2.2.2.2.2.2.2.2.2.2.2.2.2.2.2.1) (x.2.2.2.2.2.2.2.2.2.2.2.2.2.2.2.2.2.2.2.2.2.2.2.1) (x.2.2.2.2.2.2.2.2.2.2.2.2.2.2.2.2.2.2.2.2.2.2.2.2.1) (x.2.2.2.2.2.2.2.2.2.2.2.2.2.2.2.2.2.2.2.2.2.2.2.2.2.1) (x.2.2.2.2.2.2.2.2.2.2.2.2.2.2.2.2.2.2.2.2.2.2.2.2.2.2.1) (x.2.2.2.2.2.2.2.2.2.2.2.2.2.2.2.2.2.2.2.2.2.2.2.2.2.2.2.1) (x.2.2.2.2.2.2.2.2.2.2.2.2.2.2.2.2.2.2.2.2.2.2.2.2.2.2.2.2.1) (x.2.2.2.2.2.2.2.2.2.2.2.2.2.2.2.2.2.2.2.2.2.2.2.2.2.2.2.2.2.1) (x.2.2.2.2.2.2.2.2.2.2.2.2.2.2.2.2.2.2.2.2.2.2.2.2.2.2.2.2.2.2.1) (x.2.2.2.2.2.2.2.2.2.2.2.2.2.2.2.2.2.2.2.2.2.2.2.2.2.2.2.2.2.2.2.1) (x.2.2.2.2.2.2.2.2.2.2.2.2.2.2.2.2.2.2.2.2.2.2.2.2.2.2.2.2.2.2.2.2.1) (x.2.2.2.2.2.2.2.2.2.2.2.2.2.2.2.2.2.2.2.2.2.2.2.2.2.2.2.2.2.2.2.2.2.1) (x.2.2.2.2.2.2.2.2.2.2.2.2.2.2.2.2.2.2.2.2.2.2.2.2.2.2.2.2.2.2.2.2.2.2.1) (x.2.2.2.2.2.2.2.2.2.2.2.2.2.2.2.2.2.2.2.2.2.2.2.2.2.2.2.2.2.2.2.2.2.2.2.1) (x.2.2.2.2.2.2.2.2.2.2.2.2.2.2.2.2.2.2.2.2.2.2.2.2.2.2.2.2.2.2.2.2.2.2.2.2.1) (x.2.2.2.2.2.2.2.2.2.2.2.2.2.2.2.2.2.2.2.2.2.2.2.2.2.2.2.2.2.2.2.2.2.2.2.2.2.1) (x.2.2.2.2.2.2.2.2.2.2.2.2.2.2.2.2.2.2.2.2.2.2.2.2.2.2.2.2.2.2.2.2.2.2.2.2.2.2.1) (x.2.2.2.2.2.2.2.2.2.2.2.2.2.2.2.2.2.2.2.2.2.2.2.2.2.2.2.2.2.2.2.2.2.2.2.2.2.2.2.1) (x.2.2.2.2.2.2.2.2.2.2.2.2.2.2.2.2.2.2.2.2.2.2.2.2.2.2.2.2.2.2.2.2.2.2.2.2.2.2.2.2.1) (x.2.2.2.2.2.2.2.2.2.2.2.2.2.2.2.2.2.2.2.2.2.2.2.2.2.2.2.2.2.2.2.2.2.2.2.2.2.2.2.2.2.1) (x.2.2.2.2.2.2.2.2.2.2.2.2.2.2.2.2.2.2.2.2.2.2.2.2.2.2.2.2.2.2.2.2.2.2.2.2.2.2.2.2.2.2.1) (x.2.2.2.2.2.2.2.2.2.2.2.2.2.2.2.2.2.2.2.2.2.2.2.2.2.2.2.2.2.2.2.2.2.2.2.2.2.2.2.2.2.2.2.1) (x.2.2.2.2.2.2.2.2.2.2.2.2.2.2.2.2.2.2.2.2.2.2.2.2.2.2.2.2.2.2.2.2.2.2.2.2.2.2.2.2.2.2.2.2.1) (x.2.2.2.2.2.2.2.2.2.2.2.2.2.2.2.2.2.2.2.2.2.2.2.2.2.2.2.2.2.2.2.2.2.2.2.2.2.2.2.2.2.2.2.2.2.1) (x.2.2.2.2.2.2.2.2.2.2.2.2.2.2.2.2.2.2.2.2.2.2.2.2.2.2.2.2.2.2.2.2.2.2.2.2.2.2.2.2.2.2.2.2.2.2.1) (x.2.2.2.2.2.2.2.2.2.2.2.2.2.2.2.2.2.2.2.2.2.2.2.2.2.2.2.2.2.2.2.2.2.2.2.2.2.2.2.2.2.2.2.2.2.2.2.1) (x.2.2.2.2.2.2.2.2.2.2.2.2.2.2.2.2.2.2.2.2.2.2.2.2.2.2.2.2.2.2.2.2.2.2.2.2.2.2.2.2.2.2.2.2.2.2.2.2.1) (x.2.2.2.2.2.2.2.2.2.2.2.2.2.2.2.2.2.2.2.2.2.2.2.2.2.2.2.2.2.2.2.2.2.2.2.2.2.2.2.2.2.2.2.2.2.2.2.2.2.1) (x.2.2.2.2.2.2.2.2.2.2.2.2.2.2.2.2.2.2.2.2.2.2.2.2.2.2.2.2.2.2.2.2.2.2.2.2.2.2.2.2.2.2.2.2.2.2.2.2.2.2.1) (x.2.2.2.2.2.2.2.2.2.2.2.2.2.2.2.2.2.2.2.2.2.2.2.2.2.2.2.2.2.2.2.2.2.2.2.2.2.2.2.2.2.2.2.2.2.2.2.2.2.2.2.1) (x.2.2.2.2.2.2.2.2.2.2.2.2.2.2.2.2.2.2.2.2.2.2.2.2.2.2.2.2.2.2.2.2.2.2.2.2.2.2.2.2.2.2.2.2.2.2.2.2.2.2.2.2.1) (x.2.2.2.2.2.2.2.2.2.2.2.2.2.2.2.2.2.2.2.2.2.2.2.2.2.2.2.2.2.2.2.2.2.2.2.2.2.2.2.2.2.2.2.2.2.2.2.2.2.2.2.2.2.1) (x.2.2.2.2.2.2.2.2.2.2.2.2.2.2.2.2.2.2.2.2.2.2.2.2.2.2.2.2.2.2.2.2.2.2.2.2.2.2.2.2.2.2.2.2.2.2.2.2.2.2.2.2.2.2.1) (x.2.2.2.2.2.2.2.2.2.2.2.2.2.2.2.2.2.2.2.2.2.2.2.2.2.2.2.2.2.2.2.2.2.2.2.2.2.2.2.2.2.2.2.2.2.2.2.2.2.2.2.2.2.2.2.1) (x.2.2.2.2.2.2.2.2.2.2.2.2.2.2.2.2.2.2.2.2.2.2.2.2.2.2.2.2.2.2.2.2.2.2.2.2.2.2.2.2.2.2.2.2.2.2.2.2.2.2.2.2.2.2.2.2.1) (x.2.2.2.2.2.2.2.2.2.2.2.2.2.2.2.2.2.2.2.2.2.2.2.2.2.2.2.2.2.2.2.2.2.2.2.2.2.2.2.2.2.2.2.2.2.2.2.2.2.2.2.2.2.2.2.2.2.1) (x.2.2.2.2.2.2.2.2.2.2.2.2.2.2.2.2.2.2.2.2.2.2.2.2.2.2.2.2.2.2.2.2.2.2.2.2.2.2.2.2.2.2.2.2.2.2.2.2.2.2.2.2.2.2.2.2.2.2.1) (x.2.2.2.2.2.2.2.2.2.2.2.2.2.2.2.2.2.2.2.2.2.2.2.2.2.2.2.2.2.2.2.2.2.2.2.2.2.2.2.2.2.2.2.2.2.2.2.2.2.2.2.2.2.2.2.2.2.2.2.1) (x.2.2.2.2.2.2.2.2.2.2.2.2.2.2.2.2.2.2.2.2.2.2.2.2.2.2.2.2.2.2.2.2.2.2.2.2.2.2.2.2.2.2.2.2.2.2.2.2.2.2.2.2.2.2.2.2.2.2.2.2.1) (x.2.2.2.2.2.2.2.2.2.2.2.2.2.2.2.2.2.2.2.2.2.2.2.2.2.2.2.2.2.2.2.2.2.2.2.2.2.2.2.2.2.2.2.2.2.2.2.2.2.2.2.2.2.2.2.2.2.2.2.2.2.1) (x.2.2.2.2.2.2.2.2.2.2.2.2.2.2.2.2.2.2.2.2.2.2.2.2.2.2.2.2.2.2.2.2.2.2.2.2.2.2.2.2.2.2.2.2.2.2.2.2.2.2.2.2.2.2.2.2.2.2.2.2.2.2.1) (x.2.2.2.2.2.2.2.2.2.2.2.2.2.2.2.2.2.2.2.2.2.2.2.2.2.2.2.2.2.2.2.2.2.2.2.2.2.2.2.2.2.2.2.2.2.2.2.2.2.2.2.2.2.2.2.2.2.2.2.2.2.2.2) := eps_all (ne := neX) (P := fun x => StX (x.1) (x.2.1) (x.2.2.1) (x.2.2.2.1) (x.2.2.2.2.1) (x.2.2.2.2.2.1) (x.2.2.2.2.2.2.1) (x.2.2.2.2.2.2.2.1) (x.2.2.2.2.2.2.2.2.1) (x.2.2.2.2.2.2.2.2.2.1) (x.2.2.2.2.2.2.2.2.2.2.1) (x.2.2.2.2.2.2.2.2.2.2.2.1) (x.2.2.2.2.2.2.2.2.2.2.2.2.1) (x.2.2.2.2.2.2.2.2.2.2.2.2.2.1) (x.2.2.2.2.2.2.2.2.2.2.2.2.2.2.1) (x.2.2.2.2.2.2.2.2.2.2.2.2.2.2.2.1) (x.2.2.2.2.2.2.2.2.2.2.2.2.2.2.2.2.1) (x.2.2.2.2.2.2.2.2.2.2.2.2.2.2.2.2.2.1) (x.2.2.2.2.2.2.2.2.2.2.2.2.2.2.2.2.2.2.1) (x.2.2.2.2.2.2.2.2.2.2.2.2.2.2.2.2.2.2.2.1) (x.2.2.2.2.2.2.2.2.2.2.2.2.2.2.2.2.2.2.2.2.1) (x.2.2.2.2.2.2.2.2.2.2.2.2.2.2.2.2.2.2.2.2.2.1) (x.2.2.2.2.2.2.2.2.2.2.2.2.2.2.2.2.2.2.2.2.2.2.1) (x.2.2.2.2.2.2.2.2.2.2.2.2.2.2.2.2.2.2.2.2.2.2.2.1) (x.2.2.2.2.2.2.2.2.2.2.2.2.2.2.2.2.2.2.2.2.2.2.2.2.1) (x.2.2.2.2.2.2.2.2.2.2.2.2.2.2.2.2.2.2.2.2.2.2.2.2.2.1) (x.2.2.2.2.2.2.2.2.2.2.2.2.2.2.2.2.2.2.2.2.2.2.2.2.2.2.1) (x.2.2.2.2.2.2.2.2.2.2.2.2.2.2.2.2.2.2.2.2.2.2.2.2.2.2.2.1) (x.2.2.2.2.2.2.2.2.2.2.2.2.2.2.2.2.2.2.2.2.2.2.2.2.2.2.2.2.1) (x.2.2.2.2.2.2.2.2.2.2.2.2.2.2.2.2.2.2.2.2.2.2.2.2.2.2.2.2.2.1) (x.2.2.2.2.2.2.2.2.2.2.2.2.2.2.2.2.2.2.2.2.2.2.2.2.2.2.2.2.2.2.1) (x.2.2.2.2.2.2.2.2.2.2.2.2.2.2.2.2.2.2.2.2.2.2.2.2.2.2.2.2.2.2.2.1) (x.2.2.2.2.2.2.2.2.2.2.2.2.2.2.2.2.2.2.2.2.2.2.2.2.2.2.2.2.2.2.2.2.1) (x.2.2.2.2.2.2.2.2.2.2.2.2.2.2.2.2.2.2.2.2.2.2.2.2.2.2.2.2.2.2.2.2.2.1) (x.2.2.2.2.2.2.2.2.2.2.2.2.2.2.2.2.2.2.2.2.2.2.2.2.2.2.2.2.2.2.2.2.2.2.1) (x.2.2.2.2.2.2.2.2.2.2.2.2.2.2.2.2.2.2.2.2.2.2.2.2.2.2.2.2.2.2.2.2.2.2.2.1) (x.2.2.2.2.2.2.2.2.2.2.2.2.2.2.2.2.2.2.2.2.2.2.2.2.2.2.2.2.2.2.2.2.2.2.2.2.1) (x.2.2.2.2.2.2.2.2.2.2.2.2.2.2.2.2.2.2.2.2.2.2.2.2.2.2.2.2.2.2.2.2.2.2.2.2.2.1) (x.2.2.2.2.2.2.2.2.2.2.2.2.2.2.2.2.2.2.2.2.2.2.2.2.2.2.2.2.2.2.2.2.2.2.2.2.2.2.1) (x.2.2.2.2.2.2.2.2.2.2.2.2.2.2.2.2.2.2.2.2.2.2.2.2.2.2.2.2.2.2.2.2.2.2.2.2.2.2.2.1) (x.2.2.2.2.2.2.2.2.2.2.2.2.2.2.2.2.2.2.2.2.2.2.2.2.2.2.2.2.2.2.2.2.2.2.2.2.2.2.2.2.1) (x.2.2.2.2.2.2.2.2.2.2.2.2.2.2.2.2.2.2.2.2.2.2.2.2.2.2.2.2.2.2.2.2.2.2.2.2.2.2.2.2.2.1) (x.2.2.2.2.2.2.2.2.2.2.2.2.2.2.2.2.2.2.2.2.2.2.2.2.2.2.2.2.2.2.2.2.2.2.2.2.2.2.2.2.2.2.1) (x.2.2.2.2.2.2.2.2.2.2.2.2.2.2.2.2.2.2.2.2.2.2.2.2.2.2.2.2.2.2.2.2.2.2.2.2.2.2.2.2.2.2.2.1) (x.2.2.2.2.2.2.2.2.2.2.2.2.2.2.2.2.2.2.2.2.2.2.2.2.2.2.2.2.2.2.2.2.2.2.2.2.2.2.2.2.2.2.2.2.1) (x.2.2.2.2.2.2.2.2.2.2.2.2.2.2.2.2.2.2.2.2.2.2.2.2.2.2.2.2.2.2.2.2.2.2.2.2.2.2.2.2.2.2.2.2.2.1) (x.2.2.2.2.2.2.2.2.2.2.2.2.2.2.2.2.2.2.2.2.2.2.2.2.2.2.2.2.2.2.2.2.2.2.2.2.2.2.2.2.2.2.2.2.2.2.1) (x.2.2.2.2.2.2.2.2.2.2.2.2.2.2.2.2.2.2.2.2.2.2.2.2.2.2.2.2.2.2.2.2.2.2.2.2.2.2.2.2.2.2.2.2.2.2.2.1) (x.2.2.2.2.2.2.2.2.2.2.2.2.2.2.2.2.2.2.2.2.2.2.2.2.2.2.2.2.2.2.2.2.2.2.2.2.2.2.2.2.2.2.2.2.2.2.2.2.1) (x.2.2.2.2.2.2.2.2.2.2.2.2.2.2.2.2.2.2.2.2.2.2.2.2.2.2.2.2.2.2.2.2.2.2.2.2.2.2.2.2.2.2.2.2.2.2.2.2.2.1) (x.2.2.2.2.2.2.2.2.2.2.2.2.2.2.2.2.2.2.2.2.2.2.2.2.2.2.2.2.2.2.2.2.2.2.2.2.2.2.2.2.2.2.2.2.2.2.2.2.2.2.1) (x.2.2.2.2.2.2.2.2.2.2.2.2.2.2.2.2.2.2.2.2.2.2.2.2.2.2.2.2.2.2.2.2.2.2.2.2.2.2.2.2.2.2.2.2.2.2.2.2.2.2.2.1) (x.2.2.2.2.2.2.2.2.2.2.2.2.2.2.2.2.2.2.2.2.2.2.2.2.2.2.2.2.2.2.2.2.2.2.2.2.2.2.2.2.2.2.2.2.2.2.2.2.2.2.2.2.1) (x.2.2.2.2.2.2.2.2.2.2.2.2.2.2.2.2.2.2.2.2.2.2.2.2.2.2.2.2.2.2.2.2.2.2.2.2.2.2.2.2.2.2.2.2.2.2.2.2.2.2.2.2.2.1) (x.2.2.2.2.2.2.2.2.2.2.2.2.2.2.2.2.2.2.2.2.2.2.2.2.2.2.2.2.2.2.2.2.2.2.2.2.2.2.2.2.2.2.2.2.2.2.2.2.2.2.2.2.2.2.1) (x.2.2.2.2.2.2.2.2.2.2.2.2.2.2.2.2.2.2.2.2.2.2.2.2.2.2.2.2.2.2.2.2.2.2.2.2.2.2.2.2.2.2.2.2.2.2.2.2.2.2.2.2.2.2.2.1) (x.2.2.2.2.2.2.2.2.2.2.2.2.2.2.2.2.2.2.2.2.2.2.2.2.2.2.2.2.2.2.2.2.2.2.2.2.2.2.2.2.2.2.2.2.2.2.2.2.2.2.2.2.2.2.2.2.1) (x.2.2.2.2.2.2.2.2.2.2.2.2.2.2.2.2.2.2.2.2.2.2.2.2.2.2.2.2.2.2.2.2.2.2.2.2.2.2.2.2.2.2.2.2.2.2.2.2.2.2.2.2.2.2.2.2.2.1) (x.2.2.2.2.2.2.2.2.2.2.2.2.2.2.2.2.2.2.2.2.2.2.2.2.2.2.2.2.2.2.2.2.2.2.2.2.2.2.2.2.2.2.2.2.2.2.2.2.2.2.2.2.2.2.2.2.2.2.1) (x.2.2.2.2.2.2.2.2.2.2.2.2.2.2.2.2.2.2.2.2.2.2.2.2.2.2.2.2.2.2.2.2.2.2.2.2.2.2.2.2.2.2.2.2.2.2.2.2.2.2.2.2.2.2.2.2.2.2.2.1) (x.2.2.2.2.2.2.2.2.2.2.2.2.2.2.2.2.2.2.2.2.2.2.2.2.2.2.2.2.2.2.2.2.2.2.2.2.2.2.2.2.2.2.2.2.2.2.2.2.2.2.2.2.2.2.2.2.2.2.2.2.1) (x.2.2.2.2.2.2.2.2.2.2.2.2.2.2.2.2.2.2.2.2.2.2.2.2.2.2.2.2.2.2.2.2.2.2.2.2.2.2.2.2.2.2.2.2.2.2.2.2.2.2.2.2.2.2.2.2.2.2.2.2.2.1) (x.2.2.2.2.2.2.2.2.2.2.2.2.2.2.2.2.2.2.2.2.2.2.2.2.2.2.2.2.2.2.2.2.2.2.2.2.2.2.2.2.2.2.2.2.2.2.2.2.2.2.2.2.2.2.2.2.2.2.2.2.2.2.1) (x.2.2.2.2.2.2.2.2.2.2.2.2.2.2.2.2.2.2.2.2.2.2.2.2.2.2.2.2.2.2.2.2.2.2.2.2.2.2.2.2.2.2.2.2.2.2.2.2.2.2.2.2.2.2.2.2.2.2.2.2.2.2.2)) (by with_unfolding_all exact core) x
end C_law_fill
theorem law_fill {w : World}
  {p : Program}
  {loose : List PySem.Str}
  {mean : ExcName → Option Value}
  {mg mb : PySem.Str → Option Value}
  {n : Nat}
  {dp un : Nat}
  {gd : Option (List Code)}
  {a : Addr}
  {outer : List Env}
  {A₀ : Around}
  {base h₀ : Heap}
  {L : Addr}
  {m : PySem.Str → Option Value}
  {s : Shared}
  {Q : Flow → Shared → Prop}
  {E : Value → Shared → Prop}
  {cT cO cLt cH cE cP cC cM cJ : Addr}
  {oT oO oLt oH oE oP oC oM : Obj}
  {jl Dj : Addr}
  {tm tkc : Tok}
  {oJ : Obj}
  {c : Int}
  {n1 n2 : Nat}
  {ws : List Value}
  {ns : List Int}
  {od hl2 dl fl bll pl gl : Addr}
  {oo : Obj}
  {k1 k2 k3 k4 k5 k6 : Nat}
  {vh2 vd vf : List Value}
  (B : Below A₀ base outer h₀)
  (F : Fr h₀ L s.heap m)
  (X : (hd.heap_1 w.params).In h₀)
  (T : Top p loose mean mg mb h₀)
  (CH : CodeHd h₀ 429 427)
  (N : News h₀ L s.heap ((jl, listOf #[.ref Dj, .int c tkc] n1) :: (bll, listOf #[] k4) :: (pl, listOf #[] k5) :: ([(cT, oT), (cO, oO), (cLt, oLt), (cH, oH), (cE, oE), (cP, oP), (cC, oC), (cM, oM), (427, tabObj #[]), (cJ, oJ), (Dj, listOf ws.toArray n2)] ++ [(od, oo), (hl2, listOf vh2.toArray k1), (dl, listOf vd.toArray k2), (fl, listOf vf.toArray k3), (gl, listOf #[] k6)])))
  (d1 : oT.data = .cell none)
  (d2 : oO.data = .cell (some (.ref od)))
  (d3 : oLt.data = .cell none)
  (d4 : oH.data = .cell none)
  (d5 : oE.data = .cell none)
  (d6 : oP.data = .cell none)
  (d7 : oC.data = .cell none)
  (d8 : oM.data = .cell (some (.int (n : Int) tm)))
  (d9 : oJ.data = .cell (some (.ref jl)))
  (hws : IntsAre ws ns)
  (hns : ns.length ≤ 40)
  (c0 : 0 ≤ c)
  (c1 : c < 10)
  (hDj : @LT.lt Nat _ Dj jl)
  (hDc : @LT.lt Nat _ cT Dj)
  (k0 : @LT.lt Nat _ 427 L)
  (k1' : @LT.lt Nat _ L cJ)
  (k2' : @LT.lt Nat _ cJ cM)
  (k3' : @LT.lt Nat _ cM cC)
  (k4' : @LT.lt Nat _ cC cP)
  (k5' : @LT.lt Nat _ cP cE)
  (k6' : @LT.lt Nat _ cE cH)
  (k7 : @LT.lt Nat _ cH cLt)
  (k8 : @LT.lt Nat _ cLt cO)
  (k9 : @LT.lt Nat _ cO cT)
  (hdict : Obj.IsDictOf (PySem.strKind Pr w) oo [(PySem.Str.ofString "held", .ref hl2), (PySem.Str.ofString "done", .ref dl), (PySem.Str.ofString "freed", .ref fl), (PySem.Str.ofString "blessed", .ref bll), (PySem.Str.ofString "plan", .ref pl), (PySem.Str.ofString "log", .ref gl)])
  (hnd : [od, hl2, dl, fl, bll, pl, gl].Nodup)
  (hown : ∀ b ∈ [od, hl2, dl, fl, bll, pl, gl], @LT.lt Nat _ jl b)
  (g3 : BoolsAre vh2 (List.replicate n true))
  (g4 : BoolsAre vd (List.replicate n false))
  (g5 : BoolsAre vf (List.replicate n false))
  (hn0 : 0 < n)
  (hn5 : n ≤ 5)
  (hd : dp + 60 < recursionLimit)
  (hu : un + 600 < cLine)
  (ret : ∀ h' tk' m', Fr h₀ L h' m' → GrownAt 427 h' → Q (.ret (.bool true)) { s with heap := h', toks := tk' }) : wpAny (model Pr w) (ktrTop dp un gd (PySem.Str.ofString "law") lawScope L a (.ref 429) (lawClA cT cO cLt cH cE cP cC cM cJ) outer) (execs (lawRest 3) (envX (PySem.Str.ofString "law") lawScope L a (.ref 429) (lawClA cT cO cLt cH cE cP cC cM cJ))) Q E s :=
  C_law_fill.all (w, p, loose, mean, mg, mb, n, dp, un, gd, a, outer, A₀, base, h₀, L, m, s, Q, E, cT, cO, cLt, cH, cE, cP, cC, cM, cJ, oT, oO, oLt, oH, oE, oP, oC, oM, jl, Dj, tm, tkc, oJ, c, n1, n2, ws, ns, od, hl2, dl, fl, bll, pl, gl, oo, k1, k2, k3, k4, k5, k6, vh2, vd, vf) B F X T CH N d1 d2 d3 d4 d5 d6 d7 d8 d9 hws hns c0 c1 hDj hDc k0 k1' k2' k3' k4' k5' k6' k7 k8 k9 hdict hnd hown g3 g4 g5 hn0 hn5 hd hu ret
end Mine
end
theorem Mine.rs_LawOwn : True := by
  w_top off
  trivial
section
open PySem PySem.W PyProof.Rows PySem.Calls LSm
namespace Mine
noncomputable abbrev pa9 {g : Heap} {L : Addr} {h : Heap} {p0 p1 p2 p3 p4 p5 p6 p7 p8 p9 : Addr × Obj} {l : List (Addr × Obj)} (_ : News g L h (p0 :: p1 :: p2 :: p3 :: p4 :: p5 :: p6 :: p7 :: p8 :: p9 :: l)) : Addr × Obj := p9
theorem law_own {w : World} {p : Program} {loose : List PySem.Str} {mean : ExcName → Option Value} {mg mb : PySem.Str → Option Value} {n : Nat}
  {dp un : Nat} {gd : Option (List Code)} {a : Addr} {outer : List Env} {A₀ : Around} {base h₀ : Heap} {L : Addr} {m : PySem.Str → Option Value} {s : Shared} {Q : Flow → Shared → Prop} {E : Value → Shared → Prop}
  {cT cO cLt cH cE cP cC cM cJ : Addr} {oT oO oLt oH oE oP oC oM : Obj} {jl Dj : Addr} {tm tkc : Tok} {oJ : Obj} {c : Int} {n1 n2 : Nat} {ws : List Value} {ns : List Int}
  (B : Below A₀ base outer h₀) (F : Fr h₀ L s.heap m) (X : (hd.heap_1 w.params).In h₀) (T : Top p loose mean mg mb h₀) (CH : CodeHd h₀ 429 427)
  (N : News h₀ L s.heap ([(jl, listOf #[.ref Dj, .int c tkc] n1), (cT, oT), (cO, oO), (cLt, oLt), (cH, oH), (cE, oE), (cP, oP), (cC, oC), (cM, oM), (427, tabObj #[]), (cJ, oJ), (Dj, listOf ws.toArray n2)]))
  (d1 : oT.data = .cell none) (d2 : oO.data = .cell none) (d3 : oLt.data = .cell none) (d4 : oH.data = .cell none) (d5 : oE.data = .cell none) (d6 : oP.data = .cell none) (d7 : oC.data = .cell none) (d8 : oM.data = .cell (some (.int (n : Int) tm)))
  (d9 : oJ.data = .cell (some (.ref jl))) (hws : IntsAre ws ns) (hns : ns.length ≤ 40) (c0 : 0 ≤ c) (c1 : c < 10) (hDj : @LT.lt Nat _ Dj jl) (hDc : @LT.lt Nat _ cT Dj)
  (k0 : @LT.lt Nat _ 427 L) (k1' : @LT.lt Nat _ L cJ) (k2' : @LT.lt Nat _ cJ cM) (k3' : @LT.lt Nat _ cM cC) (k4' : @LT.lt Nat _ cC cP) (k5' : @LT.lt Nat _ cP cE) (k6' : @LT.lt Nat _ cE cH) (k7 : @LT.lt Nat _ cH cLt) (k8 : @LT.lt Nat _ cLt cO) (k9 : @LT.lt Nat _ cO cT)
  (hn0 : 0 < n) (hn5 : n ≤ 5) (hd : dp + 60 < recursionLimit) (hu : un + 600 < cLine)
  (ret : ∀ h' tk' m', Fr h₀ L h' m' → GrownAt 427 h' → Q (.ret (.bool true)) { s with heap := h', toks := tk' }) :
  wpAny (model Pr w) (ktrTop dp un gd (PySem.Str.ofString "law") lawScope L a (.ref 429) (lawClA cT cO cLt cH cE cP cC cM cJ) outer) (execs (lawRest 2) (envX (PySem.Str.ofString "law") lawScope L a (.ref 429) (lawClA cT cO cLt cH cE cP cC cM cJ))) Q E s := by
  unfold Pr at *
  refine wpAny_noRaise ?_
  rw [show lawRest 2 = _ :: lawRest 3 from rfl]
  rw [show lawScope = { kind := _, names := _, isGenerator := _, isCoroutine := _, more := _ } from rfl]
  revert X; k_fill; intro X
  have ecM := d8
  repeat' ((fail_if_success (with_reducible show wpAny _ _ (execs (lawRest 3) _) _ _ _)); (first | (k_unfold; (try dsimp only)) | walk1 | (dsimp only; walk1) | fail "no step"))
  rename News h₀ _ _ _ => N9
  rename Fr h₀ _ _ _ => F9
  obtain ⟨gl, ez⟩ : ∃ v, v = (pa0 N9).1 := ⟨_, rfl⟩
  dsimp only [pa0] at ez
  subst ez
  obtain ⟨pl, ez⟩ : ∃ v, v = (pa1 N9).1 := ⟨_, rfl⟩
  dsimp only [pa1] at ez
  subst ez
  obtain ⟨bll, ez⟩ : ∃ v, v = (pa2 N9).1 := ⟨_, rfl⟩
  dsimp only [pa2] at ez
  subst ez
  obtain ⟨fl, ez⟩ : ∃ v, v = (pa3 N9).1 := ⟨_, rfl⟩
  dsimp only [pa3] at ez
  subst ez
  obtain ⟨dl, ez⟩ : ∃ v, v = (pa5 N9).1 := ⟨_, rfl⟩
  dsimp only [pa5] at ez
  subst ez
  obtain ⟨hl2, ez⟩ : ∃ v, v = (pa7 N9).1 := ⟨_, rfl⟩
  dsimp only [pa7] at ez
  subst ez
  obtain ⟨od, ez⟩ : ∃ v, v = (pa9 N9).1 := ⟨_, rfl⟩
  dsimp only [pa9] at ez
  subst ez
  rename Obj.data _ = Data.cell (some (Value.ref od)) => eO
  rename Obj.IsDictOf (PySem.strKind _ _) _ _ => hdict
  have hown : ∀ b ∈ [od, hl2, dl, fl, bll, pl, gl], @LT.lt Nat _ jl b := fun b hb => by
    replace hb := mem_ors hb
    rcases hb with rfl | rfl | rfl | rfl | rfl | rfl | rfl <;> assumption
  have hnd : [od, hl2, dl, fl, bll, pl, gl].Nodup := by
    have ne : ∀ a b : Nat, a < b ∨ b < a → ¬ (a = b) := fun a b h e => by omega
    simp only [List.nodup_cons, List.mem_cons, List.not_mem_nil, or_false, not_or, not_false_eq_true, List.nodup_nil, and_true]
    refine ⟨⟨?_, ?_, ?_, ?_, ?_, ?_⟩, ⟨?_, ?_, ?_, ?_, ?_⟩, ⟨?_, ?_, ?_, ?_⟩, ⟨?_, ?_, ?_⟩, ⟨?_, ?_⟩, ?_⟩ <;> first | exact ne _ _ (.inl (by assumption)) | exact ne _ _ (.inr (by assumption))
  exact law_fill (n1 := n1) (n2 := n2) (tkc := tkc) (vh2 := _) (vd := _) (vf := _) B F9 X T CH (news_sub N9 (by simp only [List.cons_append, List.nil_append]; lcg_sub)) d1 eO d3 d4 d5 d6 d7 d8 d9 hws hns c0 c1 hDj hDc k0 k1' k2' k3' k4' k5' k6' k7 k8 k9 hdict hnd hown (by assumption) (by assumption) (by assumption) hn0 hn5 hd hu fun h' tk' m' F' => ret _ _ _ F'
end Mine
end
end
theorem Mine.rs_o11 {w : PySem.World} {p : PySem.Program} {A : PySem.Around} {q : PySem.Pos} {e : PySem.Env} {Q : PySem.Flow → PySem.Shared → Prop} {E : PySem.Value → PySem.Shared → Prop} {s : PySem.Shared} (h : PySem.wpAny (PySem.model p w) A (PySem.exec (PySem.Stmt.Pass q) e) Q E s) : PySem.wpAny (PySem.model p w) A (PySem.exec (PySem.Stmt.Pass q) e) Q E s := by
  w_top off
  first | (walk1; exact h) | exact h
theorem Mine.rs_Law : True := by
  w_top off
  trivial
section
open PySem PySem.W PyProof.Rows PySem.Calls LSm
namespace Mine
theorem jug_news {g h' : Heap} {L jl : Addr} {o o' : Obj} {tail : List (Addr × Obj)} (keep : ∀ q ∈ (jl, o) :: tail, q.1 ≠ jl → h'.get? q.1 = some q.2 ∧ q.1 ≠ L ∧ g.get? q.1 = none) (Nj : News g L h' [(jl, o')]) (ne : ∀ q ∈ tail, q.1 ≠ jl) : News g L h' ((jl, o') :: tail) := fun q hq => by
  rcases List.mem_cons.mp hq with rfl | hq
  · exact Nj _ (.head _)
  · exact keep q (.tail _ hq) (ne q hq)
theorem own_perm {g h : Heap} {L : Addr} {a b c1 c2 c3 c4 c5 c6 c7 c8 c9 t : Addr × Obj} (N : News g L h [a, b, c1, c2, c3, c4, c5, c6, c7, c8, c9, t]) : News g L h [a, c1, c2, c3, c4, c5, c6, c7, c8, t, c9, b] := fun q hq => by
  refine N q ?_
  rcases mem_ors hq with rfl | rfl | rfl | rfl | rfl | rfl | rfl | rfl | rfl | rfl | rfl | rfl <;> k_mem
local macro_rules | `(tactic| cells_open $x:ident) => `(tactic| (obtain ⟨o1, o2, o3, o4, o5, o6, o7, o8, o9, he, _, _, _, _, _, _, _, _, _⟩ := Mine.kc_nine $x rfl rfl rfl rfl rfl rfl rfl rfl rfl; subst he))
local macro_rules | `(tactic| k_qdec) => `(tactic| decide +kernel)
theorem law_t : PySem.Challenge.rw_qz0092_01.Holds := Top.hdL (by
  unfold Arg2
  k_fill
  intro w s₀ s₁ mg mb G Y fa o pm cd doc dV kV ho hd hcd hD hmg hg args vals as hpre hlay hrd hwl hlo
  have KX := km_in_of Y
  have YT := km_tabs_of Y
  k_behind G ho hd hcd hD hmg hpre hlay hrd hwl hlo cd
  (all_goals try k_fold)
  repeat' ((fail_if_success (with_reducible show wpAny _ _ (call (Value.ref 406) _) _ _ _)); (first | (k_unfold; (try dsimp only)) | walk1 | (dsimp only; walk1) | fail "no step"))
  rename Fr _ _ _ _ => F9
  rename News _ _ _ _ => N9
  obtain ⟨jl, ez⟩ : ∃ v, v = (pa0 N9).1 := ⟨_, rfl⟩
  dsimp only [pa0] at ez
  subst ez
  obtain ⟨Dj, ez⟩ : ∃ v, v = (pa1 N9).1 := ⟨_, rfl⟩
  dsimp only [pa1] at ez
  subst ez
  rename IntsAre _ (List.take 40 _) => hws
  rename Below _ _ _ _ => BB
  rename (Mine.hd.heap_1 w.params).In (ghostOf _ _) => XX
  rename Top _ _ _ _ _ (ghostOf _ _) => TT
  have hDj : @LT.lt Nat _ Dj jl := by first | assumption | omega
  have N9w := fun _ : Unit => N9
  clear N9
  have N9 := N9w ()
  have hL : @LT.lt Nat _ (s₁.heap.objs.size + 9) Dj := by omega
  have h427 : @LT.lt Nat _ 427 s₁.heap.objs.size := by first | assumption | omega
  k_dflt (refine' pour_in (Dj := Dj) (n2 := 0) BB F9 XX N9 (.head _) (.tail _ (.head _)) TT ?k5 hDj hws ?len (by decide) (by decide) (by decide) (by decide) ?kd ?ku ?_)
  case k5 => rfl
  case len => rw [List.length_take]; omega
  case kd => ktr_room
  case ku => ktr_units
  intro h6 tk6 t6 v6 t7 F6 keep Nj b1 b2
  obtain ⟨n, hn⟩ : ∃ n : Nat, 2 + v6 = (n : Int) := ⟨(2 + v6).toNat, by omega⟩
  have N6 := jug_news keep Nj (by
    simp only [List.forall_mem_cons, List.forall_mem_nil, and_true]
    (repeat' apply And.intro) <;> first | (exact fun _ h => nomatch h) | ((show ¬ @Eq Nat _ _); omega))
  clear F9 Nj keep N9
  (try dsimp only)
  (try k_fold)
  repeat' ((fail_if_success (with_reducible show wpAny _ _ (execs (Stmt.Assign [Expr.Name (PySem.Str.ofString "own") _] _ _ :: _) _) _ _ _)); (first | (k_unfold; (try dsimp only)) | walk1 | (dsimp only; walk1) | fail "no step"))
  rename Fr _ _ _ _ => F9
  rename News _ _ _ _ => N9
  rename Obj.data _ = Data.cell (some (Value.int (2 + v6) _)) => eM
  rw [hn] at eM
  refine law_own (n := n) (cT := s₁.heap.objs.size + 1 + 1 + 1 + 1 + 1 + 1 + 1 + 1 + 1) (cO := s₁.heap.objs.size + 1 + 1 + 1 + 1 + 1 + 1 + 1 + 1) (cLt := s₁.heap.objs.size + 1 + 1 + 1 + 1 + 1 + 1 + 1) (cH := s₁.heap.objs.size + 1 + 1 + 1 + 1 + 1 + 1) (cE := s₁.heap.objs.size + 1 + 1 + 1 + 1 + 1) (cP := s₁.heap.objs.size + 1 + 1 + 1 + 1) (cC := s₁.heap.objs.size + 1 + 1 + 1) (cM := s₁.heap.objs.size + 1 + 1) (cJ := s₁.heap.objs.size + 1)
    BB F9 XX TT codeHd (own_perm N9) (by assumption) (by assumption) (by assumption) (by assumption) (by assumption) (by assumption) (by assumption) eM (by assumption) hws (by rw [List.length_take]; omega) (by decide) (by decide) hDj (by omega) h427 (by omega) (by omega) (by omega) (by omega) (by omega) (by omega) (by omega) (by omega) (by omega) (by omega) (by omega) ?kd ?ku fun h' tk' m' F' gr' => ?_
  case kd => ktr_room
  case ku => ktr_units
  clear N9 F9
  (try dsimp only)
  refine ⟨?_, gr', trivial⟩
  first
  | wrow_close
  | (k_end; wrow_close)
  | k_steps)
end Mine
end
end
theorem Mine.rs_o12 {w : PySem.World} {p : PySem.Program} {A : PySem.Around} {q : PySem.Pos} {e : PySem.Env} {Q : PySem.Flow → PySem.Shared → Prop} {E : PySem.Value → PySem.Shared → Prop} {s : PySem.Shared} (h : PySem.wpAny (PySem.model p w) A (PySem.exec (PySem.Stmt.Pass q) e) Q E s) : PySem.wpAny (PySem.model p w) A (PySem.exec (PySem.Stmt.Pass q) e) Q E s := by
  w_top off
  first | (walk1; exact h) | exact h
theorem PySem.Challenge.cw_qz0092_01_holds : PySem.Challenge.rw_qz0092_01.Holds := by
  exact Mine.law_t
