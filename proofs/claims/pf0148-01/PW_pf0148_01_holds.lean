import PyProof.Rows.All
import Wide.All
import OpenK.AllK
import Wide.FinOn
import PySem.Challenge.RW_pf0148_01
open PySem PySem.W PyProof.Rows PySem.Calls
set_option Elab.async false
set_option compiler.extract_closed false
set_option maxRecDepth 100000
set_option linter.unusedVariables false
set_option linter.unusedSimpArgs false
namespace Pf
abbrev PR : Program := PySem.Challenge.rw_pf0148_01.row.prog
def nthS : List Stmt → Nat → Stmt
  | [], _ => .Pass ⟨0, 0, 0, 0⟩
  | s :: _, 0 => s
  | _ :: r, n + 1 => nthS r n
def stF (i : Nat) : Stmt := nthS PR.main.body i
def stM (i j : Nat) : Stmt := match stF i with
  | .ClassDef _ _ _ b .. => nthS b j
  | s => s
@[reducible] def fnO {n : Str} {p : Arguments} {b : List Stmt} {dl : List Expr} {rt : Option Expr} {tp : List TypeParam} {sc : Scope} {ts : Option Scope} {bi : Str} {po : Pos} (s : Stmt) (_h : s = .FunctionDef n p b dl rt tp sc ts bi po) (q : Str) (dv kv dc pm : Value) (an : Option Addr) (cd ct : Value) (bl : Addr) : Obj :=
  { cls := .type "function", data := .func { name := n, qualname := q, params := p, body := .stmts b, scope := sc, globals := 3, closure := [], defaults := dv, kwdefaults := kv, doc := dc, pyModule := pm, annotations := an, code := cd, closureTuple := ct, builtins := bl } }
@[reducible] def dE (P : Params) (x : Str) (t : Tok) (v : Value) : DictEntry := ⟨PyData.keyHash P x, .str x t, v⟩
set_option maxHeartbeats 4000000 in
noncomputable def hd.heap_39 : Params → Frag := fun P =>
  (nat_lit 2, ⟨.none, none, .dict #[] 0, #[]⟩) ::
  (nat_lit 3, ⟨.type "dict", none, .dict #[dE P (.ofString "__name__") 165 (.str (.ofString "law_pf0148_01") 1336), dE P (.ofString "__doc__") 166 .none, dE P (.ofString "__package__") 167 .none, dE P (.ofString "__loader__") 168 (.builtin "__main__.__loader__#opaque"), dE P (.ofString "__spec__") 169 .none, dE P (.ofString "__annotations__") 170 (.ref 6), dE P (.ofString "__builtins__") 171 (.ref 4), dE P (.ofString "__file__") 173 (.str (.ofString "/claim/cut.py") 172), dE P (.ofString "__cached__") 174 .none, dE P (.ofString "_wall") 193 (.ref 21), dE P (.ofString "IGNORE_BASES") 197 (.int 2 196), dE P (.ofString "IGNORE_LIGATURES") 199 (.int 4 198), dE P (.ofString "IGNORE_MARKS") 201 (.int 8 200), dE P (.ofString "USE_SET") 203 (.int 16 202), dE P (.ofString "Lookup") 244 (.ref 43), dE P (.ofString "Scene") 285 (.ref 65), dE P (.ofString "attach_wanted") 292 (.ref 76), dE P (.ofString "class_bit") 299 (.ref 83), dE P (.ofString "is_ignored") 310 (.ref 90), dE P (.ofString "passes") 318 (.ref 97), dE P (.ofString "takes") 326 (.ref 104), dE P (.ofString "nested_scene") 335 (.ref 111), dE P (.ofString "Info") 398 (.ref 142), dE P (.ofString "Buffer") 463 (.ref 193), dE P (.ofString "set_cluster") 471 (.ref 204), dE P (.ofString "widened") 482 (.ref 211), dE P (.ofString "merge") 488 (.ref 216), dE P (.ofString "hang") 494 (.ref 221), dE P (.ofString "hand_back") 505 (.ref 228), dE P (.ofString "drop_cluster") 511 (.ref 233), dE P (.ofString "put") 517 (.ref 238), dE P (.ofString "KINDS_IN_INPUT") 522 (.ref 239), dE P (.ofString "KINDS_AROUND") 526 (.ref 240), dE P (.ofString "glyph_tests") 532 (.ref 245), dE P (.ofString "cover_tests") 538 (.ref 250), dE P (.ofString "fits") 546 (.ref 257), dE P (.ofString "is_borne") 554 (.ref 264), dE P (.ofString "found_at") 568 (.ref 271), dE P (.ofString "input_at") 580 (.ref 278), dE P (.ofString "last_at") 592 (.ref 285), dE P (.ofString "ahead_at") 601 (.ref 292), dE P (.ofString "back_at") 610 (.ref 299), dE P (.ofString "is_piece") 617 (.ref 306), dE P (.ofString "hold_together") 628 (.ref 313), dE P (.ofString "BASE_ligature") 632 (.int 1 631), dE P (.ofString "MARK") 634 (.int 3 633), dE P (.ofString "part_count") 641 (.ref 320), dE P (.ofString "way_of") 647 (.ref 325), dE P (.ofString "tie") 658 (.ref 332), dE P (.ofString "tie_behind") 671 (.ref 339), dE P (.ofString "tie_all") 687 (.ref 346), dE P (.ofString "join") 693 (.ref 351), dE P (.ofString "apply_ligature") 707 (.ref 358), dE P (.ofString "Coverage") 764 (.ref 396), dE P (.ofString "coverage_of") 773 (.ref 407), dE P (.ofString "BY_GLYPHS") 777 (.int 1 776), dE P (.ofString "BY_CLASSES") 779 (.int 2 778), dE P (.ofString "Rule") 828 (.ref 438), dE P (.ofString "Contexts") 888 (.ref 479), dE P (.ofString "told_row") 894 (.ref 488), dE P (.ofString "tests_of") 900 (.ref 493), dE P (.ofString "rule_tests") 912 (.ref 500), dE P (.ofString "rules_at") 918 (.ref 505), dE P (.ofString "MOST_DEPTH") 922 (.int 6 921), dE P (.ofString "MOST_PLACES") 924 (.int 64 923), dE P (.ofString "MOST_ACTIONS") 926 (.int 256 925), dE P (.ofString "Places") 957 (.ref 522), dE P (.ofString "match_rule") 973 (.ref 533), dE P (.ofString "inner_scene") 981 (.ref 540), dE P (.ofString "grow") 987 (.ref 545), dE P (.ofString "shrink") 993 (.ref 550), dE P (.ofString "move") 1002 (.ref 557), dE P (.ofString "do_action") 1017 (.ref 564), dE P (.ofString "do_actions") 1028 (.ref 571), dE P (.ofString "apply_context") 1040 (.ref 578), dE P (.ofString "apply_reverse") 1054 (.ref 585), dE P (.ofString "Single") 1091 (.ref 607), dE P (.ofString "apply_single") 1101 (.ref 618), dE P (.ofString "apply_multiple") 1116 (.ref 625), dE P (.ofString "choice_of") 1125 (.ref 632), dE P (.ofString "apply_alternate") 1137 (.ref 639), dE P (.ofString "apply_table") 1149 (.ref 646), dE P (.ofString "substitute_at") 1159 (.ref 653), dE P (.ofString "run_forward") 1169 (.ref 660), dE P (.ofString "run_backward") 1178 (.ref 667), dE P (.ofString "run_substitution") 1190 (.ref 674), dE P (.ofString "ClassDef") 1252 (.ref 717), dE P (.ofString "NO_CLASS") 1256 (.int 0 1255), dE P (.ofString "BASE_gdef") 1258 (.int 1 1257), dE P (.ofString "COMPONENT") 1260 (.int 4 1259), dE P (.ofString "Gdef") 1329 (.ref 765), dE P (.ofString "no_gdef") 1335 (.ref 776), dE P (.ofString "_law_draw") 1346 (.ref 783), dE P (.ofString "_law_walk") 1356 (.ref 790), dE P (.ofString "law") 1362 (.ref 795)] 95, #[]⟩) ::
  (nat_lit 34, ⟨.type "code", none, .fields #[.str (.ofString "__init__") 216, .str (.ofString "Lookup.__init__") 217, .str (.ofString "/claim/cut.py") 218, .int 11 0, .int 5 0, .int 0 0, .int 0 0, .int 3 0, .ref 29, .bool true, .int 181 0, .ref 30, .none, .ref 31, .ref 32, .ref 33, .int 224 0, .int 11 0, .str (.ofString "/claim/cut.py") 225], #[]⟩) ::
  (nat_lit 35, fnO (stM 6 0) rfl (.ofString "Lookup.__init__") .none .none .none (.str (.ofString "joinedhand.flags") 194) none (.ref 34) .none 0) ::
  (nat_lit 42, ⟨.type "dict", none, .dict #[dE P (.ofString "__module__") 211 (.str (.ofString "joinedhand.flags") 194), dE P (.ofString "__firstlineno__") 215 (.int 9 214), dE P (.ofString "__init__") 226 (.ref 35), dE P (.ofString "told") 232 (.ref 40), dE P (.ofString "__static_attributes__") 237 (.ref 41), dE P (.ofString "__dict__") 239 (.ref 44), dE P (.ofString "__weakref__") 241 (.ref 45), dE P (.ofString "__doc__") 242 .none] 4, #[]⟩) ::
  (nat_lit 43, ⟨.type "type", none, .cls { name := (.ofString "Lookup"), bases := [.type "object"], mro := [.ref 43, .type "object"], ns := 42, qualname := (.ofString "Lookup") }, #[none, none, some (.str (.ofString "Lookup") 204), some (.str (.ofString "Lookup") 212), some (.builtin "object.__new__"), some (.bool true)]⟩) ::
  (nat_lit 55, ⟨.type "tuple", none, .seq #[.int 0 257] 0, #[]⟩) ::
  (nat_lit 61, ⟨.type "code", none, .fields #[.str (.ofString "__init__") 258, .str (.ofString "Scene.__init__") 259, .str (.ofString "/claim/cut.py") 260, .int 22 0, .int 7 0, .int 0 0, .int 0 0, .int 3 0, .ref 56, .bool true, .int 181 0, .ref 57, .none, .ref 58, .ref 59, .ref 60, .int 268 0, .int 22 0, .str (.ofString "/claim/cut.py") 269], #[]⟩) ::
  (nat_lit 62, fnO (stM 7 0) rfl (.ofString "Scene.__init__") (.ref 55) .none .none (.str (.ofString "joinedhand.flags") 194) none (.ref 61) .none 0) ::
  (nat_lit 64, ⟨.type "dict", none, .dict #[dE P (.ofString "__module__") 252 (.str (.ofString "joinedhand.flags") 194), dE P (.ofString "__firstlineno__") 256 (.int 20 255), dE P (.ofString "__init__") 270 (.ref 62), dE P (.ofString "__static_attributes__") 278 (.ref 63), dE P (.ofString "__dict__") 280 (.ref 66), dE P (.ofString "__weakref__") 282 (.ref 67), dE P (.ofString "__doc__") 283 .none] 4, #[]⟩) ::
  (nat_lit 65, ⟨.type "type", none, .cls { name := (.ofString "Scene"), bases := [.type "object"], mro := [.ref 65, .type "object"], ns := 64, qualname := (.ofString "Scene") }, #[none, none, some (.str (.ofString "Scene") 245), some (.str (.ofString "Scene") 253), some (.builtin "object.__new__"), some (.bool true)]⟩) ::
  (nat_lit 82, ⟨.type "code", none, .fields #[.str (.ofString "class_bit") 293, .str (.ofString "class_bit") 294, .str (.ofString "/claim/cut.py") 295, .int 32 0, .int 1 0, .int 0 0, .int 0 0, .int 3 0, .ref 77, .bool true, .int 181 0, .ref 78, .none, .ref 79, .ref 80, .ref 81, .int 297 0, .int 32 0, .str (.ofString "/claim/cut.py") 298], #[]⟩) ::
  (nat_lit 83, fnO (stF 9) rfl (.ofString "class_bit") .none .none .none (.str (.ofString "joinedhand.flags") 194) none (.ref 82) .none 0) ::
  (nat_lit 89, ⟨.type "code", none, .fields #[.str (.ofString "is_ignored") 300, .str (.ofString "is_ignored") 301, .str (.ofString "/claim/cut.py") 302, .int 34 0, .int 3 0, .int 0 0, .int 0 0, .int 3 0, .ref 84, .bool true, .int 181 0, .ref 85, .none, .ref 86, .ref 87, .ref 88, .int 308 0, .int 34 0, .str (.ofString "/claim/cut.py") 309], #[]⟩) ::
  (nat_lit 90, fnO (stF 10) rfl (.ofString "is_ignored") .none .none .none (.str (.ofString "joinedhand.flags") 194) none (.ref 89) .none 0) ::
  (nat_lit 96, ⟨.type "code", none, .fields #[.str (.ofString "passes") 311, .str (.ofString "passes") 312, .str (.ofString "/claim/cut.py") 313, .int 44 0, .int 2 0, .int 0 0, .int 0 0, .int 3 0, .ref 91, .bool true, .int 181 0, .ref 92, .none, .ref 93, .ref 94, .ref 95, .int 316 0, .int 44 0, .str (.ofString "/claim/cut.py") 317], #[]⟩) ::
  (nat_lit 97, fnO (stF 11) rfl (.ofString "passes") .none .none .none (.str (.ofString "joinedhand.flags") 194) none (.ref 96) .none 0) ::
  (nat_lit 103, ⟨.type "code", none, .fields #[.str (.ofString "takes") 319, .str (.ofString "takes") 320, .str (.ofString "/claim/cut.py") 321, .int 46 0, .int 2 0, .int 0 0, .int 0 0, .int 3 0, .ref 98, .bool true, .int 181 0, .ref 99, .none, .ref 100, .ref 101, .ref 102, .int 324 0, .int 46 0, .str (.ofString "/claim/cut.py") 325], #[]⟩) ::
  (nat_lit 104, fnO (stF 12) rfl (.ofString "takes") .none .none .none (.str (.ofString "joinedhand.flags") 194) none (.ref 103) .none 0) ::
  (nat_lit 110, ⟨.type "code", none, .fields #[.str (.ofString "nested_scene") 327, .str (.ofString "nested_scene") 328, .str (.ofString "/claim/cut.py") 329, .int 48 0, .int 2 0, .int 0 0, .int 0 0, .int 3 0, .ref 105, .bool true, .int 181 0, .ref 106, .none, .ref 107, .ref 108, .ref 109, .int 333 0, .int 48 0, .str (.ofString "/claim/cut.py") 334], #[]⟩) ::
  (nat_lit 111, fnO (stF 13) rfl (.ofString "nested_scene") .none .none .none (.str (.ofString "joinedhand.flags") 194) none (.ref 110) .none 0) ::
  (nat_lit 124, ⟨.type "code", none, .fields #[.str (.ofString "__init__") 350, .str (.ofString "Info.__init__") 351, .str (.ofString "/claim/cut.py") 352, .int 57 0, .int 4 0, .int 0 0, .int 0 0, .int 3 0, .ref 119, .bool true, .int 181 0, .ref 120, .none, .ref 121, .ref 122, .ref 123, .int 357 0, .int 57 0, .str (.ofString "/claim/cut.py") 358], #[]⟩) ::
  (nat_lit 125, fnO (stM 15 0) rfl (.ofString "Info.__init__") .none .none .none (.str (.ofString "joinedhand.buffer") 336) none (.ref 124) .none 0) ::
  (nat_lit 141, ⟨.type "dict", none, .dict #[dE P (.ofString "__module__") 345 (.str (.ofString "joinedhand.buffer") 336), dE P (.ofString "__firstlineno__") 349 (.int 55 348), dE P (.ofString "__init__") 359 (.ref 125), dE P (.ofString "copied") 367 (.ref 132), dE P (.ofString "told") 374 (.ref 139), dE P (.ofString "__static_attributes__") 391 (.ref 140), dE P (.ofString "__dict__") 393 (.ref 143), dE P (.ofString "__weakref__") 395 (.ref 144), dE P (.ofString "__doc__") 396 .none] 4, #[]⟩) ::
  (nat_lit 142, ⟨.type "type", none, .cls { name := (.ofString "Info"), bases := [.type "object"], mro := [.ref 142, .type "object"], ns := 141, qualname := (.ofString "Info") }, #[none, none, some (.str (.ofString "Info") 338), some (.str (.ofString "Info") 346), some (.builtin "object.__new__"), some (.bool true)]⟩) ::
  (nat_lit 154, ⟨.type "tuple", none, .seq #[.bool false] 0, #[]⟩) ::
  (nat_lit 160, ⟨.type "code", none, .fields #[.str (.ofString "__init__") 411, .str (.ofString "Buffer.__init__") 412, .str (.ofString "/claim/cut.py") 413, .int 96 0, .int 3 0, .int 0 0, .int 0 0, .int 3 0, .ref 155, .bool true, .int 181 0, .ref 156, .none, .ref 157, .ref 158, .ref 159, .int 417 0, .int 96 0, .str (.ofString "/claim/cut.py") 418], #[]⟩) ::
  (nat_lit 161, fnO (stM 16 0) rfl (.ofString "Buffer.__init__") (.ref 154) .none .none (.str (.ofString "joinedhand.buffer") 336) none (.ref 160) .none 0) ::
  (nat_lit 165, ⟨.type "code", none, .fields #[.str (.ofString "glyphs") 420, .str (.ofString "Buffer.glyphs") 421, .str (.ofString "/claim/cut.py") 422, .int 102 0, .int 1 0, .int 0 0, .int 0 0, .int 3 0, .ref 162, .bool true, .int 181 0, .ref 163, .none, .none, .none, .ref 164, .int 423 0, .int 102 0, .str (.ofString "/claim/cut.py") 424], #[]⟩) ::
  (nat_lit 166, fnO (stM 16 1) rfl (.ofString "Buffer.glyphs") .none .none .none (.str (.ofString "joinedhand.buffer") 336) none (.ref 165) .none 0) ::
  (nat_lit 192, ⟨.type "dict", none, .dict #[dE P (.ofString "__module__") 406 (.str (.ofString "joinedhand.buffer") 336), dE P (.ofString "__firstlineno__") 410 (.int 94 409), dE P (.ofString "__init__") 419 (.ref 161), dE P (.ofString "glyphs") 425 (.ref 166), dE P (.ofString "clusters") 431 (.ref 171), dE P (.ofString "told") 437 (.ref 176), dE P (.ofString "next_lig") 444 (.ref 183), dE P (.ofString "next_split") 451 (.ref 190), dE P (.ofString "__static_attributes__") 456 (.ref 191), dE P (.ofString "__dict__") 458 (.ref 194), dE P (.ofString "__weakref__") 460 (.ref 195), dE P (.ofString "__doc__") 461 .none] 4, #[]⟩) ::
  (nat_lit 193, ⟨.type "type", none, .cls { name := (.ofString "Buffer"), bases := [.type "object"], mro := [.ref 193, .type "object"], ns := 192, qualname := (.ofString "Buffer") }, #[none, none, some (.str (.ofString "Buffer") 399), some (.str (.ofString "Buffer") 407), some (.builtin "object.__new__"), some (.bool true)]⟩) ::
  (nat_lit 220, ⟨.type "code", none, .fields #[.str (.ofString "hang") 489, .str (.ofString "hang") 490, .str (.ofString "/claim/cut.py") 491, .int 137 0, .int 3 0, .int 0 0, .int 0 0, .int 3 0, .ref 217, .bool true, .int 181 0, .ref 218, .none, .none, .none, .ref 219, .int 492 0, .int 137 0, .str (.ofString "/claim/cut.py") 493], #[]⟩) ::
  (nat_lit 221, fnO (stF 20) rfl (.ofString "hang") .none .none .none (.str (.ofString "joinedhand.buffer") 336) none (.ref 220) .none 0) ::
  (nat_lit 239, ⟨.type "tuple", none, .seq #[.str (.ofString "zwj") 520, .str (.ofString "hidden") 521] 0, #[]⟩) ::
  (nat_lit 240, ⟨.type "tuple", none, .seq #[.str (.ofString "zwj") 523, .str (.ofString "zwnj") 524, .str (.ofString "hidden") 525] 0, #[]⟩) ::
  (nat_lit 256, ⟨.type "code", none, .fields #[.str (.ofString "fits") 539, .str (.ofString "fits") 540, .str (.ofString "/claim/cut.py") 541, .int 186 0, .int 2 0, .int 0 0, .int 0 0, .int 3 0, .ref 251, .bool true, .int 181 0, .ref 252, .none, .ref 253, .ref 254, .ref 255, .int 544 0, .int 186 0, .str (.ofString "/claim/cut.py") 545], #[]⟩) ::
  (nat_lit 257, fnO (stF 29) rfl (.ofString "fits") .none .none .none (.str (.ofString "joinedhand.matching") 518) none (.ref 256) .none 0) ::
  (nat_lit 277, ⟨.type "code", none, .fields #[.str (.ofString "input_at") 569, .str (.ofString "input_at") 570, .str (.ofString "/claim/cut.py") 571, .int 205 0, .int 3 0, .int 0 0, .int 0 0, .int 3 0, .ref 272, .bool true, .int 181 0, .ref 273, .none, .ref 274, .ref 275, .ref 276, .int 578 0, .int 205 0, .str (.ofString "/claim/cut.py") 579], #[]⟩) ::
  (nat_lit 278, fnO (stF 32) rfl (.ofString "input_at") .none .none .none (.str (.ofString "joinedhand.matching") 518) none (.ref 277) .none 0) ::
  (nat_lit 284, ⟨.type "code", none, .fields #[.str (.ofString "last_at") 581, .str (.ofString "last_at") 582, .str (.ofString "/claim/cut.py") 583, .int 215 0, .int 4 0, .int 0 0, .int 0 0, .int 3 0, .ref 279, .bool true, .int 181 0, .ref 280, .none, .ref 281, .ref 282, .ref 283, .int 590 0, .int 215 0, .str (.ofString "/claim/cut.py") 591], #[]⟩) ::
  (nat_lit 285, fnO (stF 33) rfl (.ofString "last_at") .none .none .none (.str (.ofString "joinedhand.matching") 518) none (.ref 284) .none 0) ::
  (nat_lit 291, ⟨.type "code", none, .fields #[.str (.ofString "ahead_at") 593, .str (.ofString "ahead_at") 594, .str (.ofString "/claim/cut.py") 595, .int 222 0, .int 3 0, .int 0 0, .int 0 0, .int 3 0, .ref 286, .bool true, .int 181 0, .ref 287, .none, .ref 288, .ref 289, .ref 290, .int 599 0, .int 222 0, .str (.ofString "/claim/cut.py") 600], #[]⟩) ::
  (nat_lit 292, fnO (stF 34) rfl (.ofString "ahead_at") .none .none .none (.str (.ofString "joinedhand.matching") 518) none (.ref 291) .none 0) ::
  (nat_lit 298, ⟨.type "code", none, .fields #[.str (.ofString "back_at") 602, .str (.ofString "back_at") 603, .str (.ofString "/claim/cut.py") 604, .int 224 0, .int 3 0, .int 0 0, .int 0 0, .int 3 0, .ref 293, .bool true, .int 181 0, .ref 294, .none, .ref 295, .ref 296, .ref 297, .int 608 0, .int 224 0, .str (.ofString "/claim/cut.py") 609], #[]⟩) ::
  (nat_lit 299, fnO (stF 35) rfl (.ofString "back_at") .none .none .none (.str (.ofString "joinedhand.matching") 518) none (.ref 298) .none 0) ::
  (nat_lit 371, ⟨.type "code", none, .fields #[.str (.ofString "__init__") 722, .str (.ofString "Coverage.__init__") 723, .str (.ofString "/claim/cut.py") 724, .int 301 0, .int 2 0, .int 0 0, .int 0 0, .int 3 0, .ref 366, .bool true, .int 181 0, .ref 367, .none, .ref 368, .ref 369, .ref 370, .int 727 0, .int 301 0, .str (.ofString "/claim/cut.py") 728], #[]⟩) ::
  (nat_lit 372, fnO (stM 49 0) rfl (.ofString "Coverage.__init__") .none .none .none (.str (.ofString "joinedhand.coverage") 708) none (.ref 371) .none 0) ::
  (nat_lit 378, ⟨.type "code", none, .fields #[.str (.ofString "index") 730, .str (.ofString "Coverage.index") 731, .str (.ofString "/claim/cut.py") 732, .int 304 0, .int 2 0, .int 0 0, .int 0 0, .int 3 0, .ref 373, .bool true, .int 181 0, .ref 374, .none, .ref 375, .ref 376, .ref 377, .int 738 0, .int 304 0, .str (.ofString "/claim/cut.py") 739], #[]⟩) ::
  (nat_lit 379, fnO (stM 49 1) rfl (.ofString "Coverage.index") .none .none .none (.str (.ofString "joinedhand.coverage") 708) none (.ref 378) .none 0) ::
  (nat_lit 385, ⟨.type "code", none, .fields #[.str (.ofString "has") 741, .str (.ofString "Coverage.has") 742, .str (.ofString "/claim/cut.py") 743, .int 317 0, .int 2 0, .int 0 0, .int 0 0, .int 3 0, .ref 380, .bool true, .int 181 0, .ref 381, .none, .ref 382, .ref 383, .ref 384, .int 746 0, .int 317 0, .str (.ofString "/claim/cut.py") 747], #[]⟩) ::
  (nat_lit 386, fnO (stM 49 2) rfl (.ofString "Coverage.has") .none .none .none (.str (.ofString "joinedhand.coverage") 708) none (.ref 385) .none 0) ::
  (nat_lit 395, ⟨.type "dict", none, .dict #[dE P (.ofString "__module__") 717 (.str (.ofString "joinedhand.coverage") 708), dE P (.ofString "__firstlineno__") 721 (.int 299 720), dE P (.ofString "__init__") 729 (.ref 372), dE P (.ofString "index") 740 (.ref 379), dE P (.ofString "has") 748 (.ref 386), dE P (.ofString "told") 755 (.ref 393), dE P (.ofString "__static_attributes__") 757 (.ref 394), dE P (.ofString "__dict__") 759 (.ref 397), dE P (.ofString "__weakref__") 761 (.ref 398), dE P (.ofString "__doc__") 762 .none] 4, #[]⟩) ::
  (nat_lit 396, ⟨.type "type", none, .cls { name := (.ofString "Coverage"), bases := [.type "object"], mro := [.ref 396, .type "object"], ns := 395, qualname := (.ofString "Coverage") }, #[none, none, some (.str (.ofString "Coverage") 710), some (.str (.ofString "Coverage") 718), some (.builtin "object.__new__"), some (.bool true)]⟩) ::
  (nat_lit 406, ⟨.type "code", none, .fields #[.str (.ofString "coverage_of") 765, .str (.ofString "coverage_of") 766, .str (.ofString "/claim/cut.py") 767, .int 322 0, .int 1 0, .int 0 0, .int 0 0, .int 3 0, .ref 401, .bool true, .int 181 0, .ref 402, .none, .ref 403, .ref 404, .ref 405, .int 771 0, .int 322 0, .str (.ofString "/claim/cut.py") 772], #[]⟩) ::
  (nat_lit 407, fnO (stF 50) rfl (.ofString "coverage_of") .none .none .none (.str (.ofString "joinedhand.coverage") 708) none (.ref 406) .none 0) ::
  (nat_lit 420, ⟨.type "code", none, .fields #[.str (.ofString "__init__") 792, .str (.ofString "Rule.__init__") 793, .str (.ofString "/claim/cut.py") 794, .int 332 0, .int 5 0, .int 0 0, .int 0 0, .int 3 0, .ref 415, .bool true, .int 181 0, .ref 416, .none, .ref 417, .ref 418, .ref 419, .int 800 0, .int 332 0, .str (.ofString "/claim/cut.py") 801], #[]⟩) ::
  (nat_lit 421, fnO (stM 54 0) rfl (.ofString "Rule.__init__") .none .none .none (.str (.ofString "joinedhand.contexts") 774) none (.ref 420) .none 0) ::
  (nat_lit 437, ⟨.type "dict", none, .dict #[dE P (.ofString "__module__") 787 (.str (.ofString "joinedhand.contexts") 774), dE P (.ofString "__firstlineno__") 791 (.int 330 790), dE P (.ofString "__init__") 802 (.ref 421), dE P (.ofString "told") 809 (.ref 428), dE P (.ofString "reach") 816 (.ref 435), dE P (.ofString "__static_attributes__") 821 (.ref 436), dE P (.ofString "__dict__") 823 (.ref 439), dE P (.ofString "__weakref__") 825 (.ref 440), dE P (.ofString "__doc__") 826 .none] 4, #[]⟩) ::
  (nat_lit 438, ⟨.type "type", none, .cls { name := (.ofString "Rule"), bases := [.type "object"], mro := [.ref 438, .type "object"], ns := 437, qualname := (.ofString "Rule") }, #[none, none, some (.str (.ofString "Rule") 780), some (.str (.ofString "Rule") 788), some (.builtin "object.__new__"), some (.bool true)]⟩) ::
  (nat_lit 450, ⟨.type "tuple", none, .seq #[.none, .none] 0, #[]⟩) ::
  (nat_lit 456, ⟨.type "code", none, .fields #[.str (.ofString "__init__") 841, .str (.ofString "Contexts.__init__") 842, .str (.ofString "/claim/cut.py") 843, .int 345 0, .int 6 0, .int 0 0, .int 0 0, .int 3 0, .ref 451, .bool true, .int 181 0, .ref 452, .none, .ref 453, .ref 454, .ref 455, .int 850 0, .int 345 0, .str (.ofString "/claim/cut.py") 851], #[]⟩) ::
  (nat_lit 457, fnO (stM 55 0) rfl (.ofString "Contexts.__init__") (.ref 450) .none .none (.str (.ofString "joinedhand.contexts") 774) none (.ref 456) .none 0) ::
  (nat_lit 478, ⟨.type "dict", none, .dict #[dE P (.ofString "__module__") 836 (.str (.ofString "joinedhand.contexts") 774), dE P (.ofString "__firstlineno__") 840 (.int 343 839), dE P (.ofString "__init__") 852 (.ref 457), dE P (.ofString "told") 858 (.ref 462), dE P (.ofString "used_classes") 865 (.ref 469), dE P (.ofString "rules") 875 (.ref 476), dE P (.ofString "__static_attributes__") 881 (.ref 477), dE P (.ofString "__dict__") 883 (.ref 480), dE P (.ofString "__weakref__") 885 (.ref 481), dE P (.ofString "__doc__") 886 .none] 4, #[]⟩) ::
  (nat_lit 479, ⟨.type "type", none, .cls { name := (.ofString "Contexts"), bases := [.type "object"], mro := [.ref 479, .type "object"], ns := 478, qualname := (.ofString "Contexts") }, #[none, none, some (.str (.ofString "Contexts") 829), some (.str (.ofString "Contexts") 837), some (.builtin "object.__new__"), some (.bool true)]⟩) ::
  (nat_lit 492, ⟨.type "code", none, .fields #[.str (.ofString "tests_of") 895, .str (.ofString "tests_of") 896, .str (.ofString "/claim/cut.py") 897, .int 369 0, .int 3 0, .int 0 0, .int 0 0, .int 3 0, .ref 489, .bool true, .int 181 0, .ref 490, .none, .none, .none, .ref 491, .int 898 0, .int 369 0, .str (.ofString "/claim/cut.py") 899], #[]⟩) ::
  (nat_lit 493, fnO (stF 57) rfl (.ofString "tests_of") .none .none .none (.str (.ofString "joinedhand.contexts") 774) none (.ref 492) .none 0) ::
  (nat_lit 499, ⟨.type "code", none, .fields #[.str (.ofString "rule_tests") 901, .str (.ofString "rule_tests") 902, .str (.ofString "/claim/cut.py") 903, .int 373 0, .int 2 0, .int 0 0, .int 0 0, .int 3 0, .ref 494, .bool true, .int 181 0, .ref 495, .none, .ref 496, .ref 497, .ref 498, .int 910 0, .int 373 0, .str (.ofString "/claim/cut.py") 911], #[]⟩) ::
  (nat_lit 500, fnO (stF 58) rfl (.ofString "rule_tests") .none .none .none (.str (.ofString "joinedhand.contexts") 774) none (.ref 499) .none 0) ::
  (nat_lit 504, ⟨.type "code", none, .fields #[.str (.ofString "rules_at") 913, .str (.ofString "rules_at") 914, .str (.ofString "/claim/cut.py") 915, .int 377 0, .int 2 0, .int 0 0, .int 0 0, .int 3 0, .ref 501, .bool true, .int 181 0, .ref 502, .none, .none, .none, .ref 503, .int 916 0, .int 377 0, .str (.ofString "/claim/cut.py") 917], #[]⟩) ::
  (nat_lit 505, fnO (stF 59) rfl (.ofString "rules_at") .none .none .none (.str (.ofString "joinedhand.contexts") 774) none (.ref 504) .none 0) ::
  (nat_lit 518, ⟨.type "code", none, .fields #[.str (.ofString "__init__") 939, .str (.ofString "Places.__init__") 940, .str (.ofString "/claim/cut.py") 941, .int 391 0, .int 3 0, .int 0 0, .int 0 0, .int 3 0, .ref 513, .bool true, .int 181 0, .ref 514, .none, .ref 515, .ref 516, .ref 517, .int 945 0, .int 391 0, .str (.ofString "/claim/cut.py") 946], #[]⟩) ::
  (nat_lit 519, fnO (stM 64 0) rfl (.ofString "Places.__init__") .none .none .none (.str (.ofString "joinedhand.nested") 919) none (.ref 518) .none 0) ::
  (nat_lit 521, ⟨.type "dict", none, .dict #[dE P (.ofString "__module__") 934 (.str (.ofString "joinedhand.nested") 919), dE P (.ofString "__firstlineno__") 938 (.int 389 937), dE P (.ofString "__init__") 947 (.ref 519), dE P (.ofString "__static_attributes__") 950 (.ref 520), dE P (.ofString "__dict__") 952 (.ref 523), dE P (.ofString "__weakref__") 954 (.ref 524), dE P (.ofString "__doc__") 955 .none] 4, #[]⟩) ::
  (nat_lit 522, ⟨.type "type", none, .cls { name := (.ofString "Places"), bases := [.type "object"], mro := [.ref 522, .type "object"], ns := 521, qualname := (.ofString "Places") }, #[none, none, some (.str (.ofString "Places") 927), some (.str (.ofString "Places") 935), some (.builtin "object.__new__"), some (.bool true)]⟩) ::
  (nat_lit 532, ⟨.type "code", none, .fields #[.str (.ofString "match_rule") 958, .str (.ofString "match_rule") 959, .str (.ofString "/claim/cut.py") 960, .int 394 0, .int 3 0, .int 0 0, .int 0 0, .int 3 0, .ref 527, .bool true, .int 181 0, .ref 528, .none, .ref 529, .ref 530, .ref 531, .int 971 0, .int 394 0, .str (.ofString "/claim/cut.py") 972], #[]⟩) ::
  (nat_lit 533, fnO (stF 65) rfl (.ofString "match_rule") .none .none .none (.str (.ofString "joinedhand.nested") 919) none (.ref 532) .none 0) ::
  (nat_lit 539, ⟨.type "code", none, .fields #[.str (.ofString "inner_scene") 974, .str (.ofString "inner_scene") 975, .str (.ofString "/claim/cut.py") 976, .int 404 0, .int 2 0, .int 0 0, .int 0 0, .int 3 0, .ref 534, .bool true, .int 181 0, .ref 535, .none, .ref 536, .ref 537, .ref 538, .int 979 0, .int 404 0, .str (.ofString "/claim/cut.py") 980], #[]⟩) ::
  (nat_lit 540, fnO (stF 66) rfl (.ofString "inner_scene") .none .none .none (.str (.ofString "joinedhand.nested") 919) none (.ref 539) .none 0) ::
  (nat_lit 563, ⟨.type "code", none, .fields #[.str (.ofString "do_action") 1003, .str (.ofString "do_action") 1004, .str (.ofString "/claim/cut.py") 1005, .int 420 0, .int 4 0, .int 0 0, .int 0 0, .int 3 0, .ref 558, .bool true, .int 181 0, .ref 559, .none, .ref 560, .ref 561, .ref 562, .int 1015 0, .int 420 0, .str (.ofString "/claim/cut.py") 1016], #[]⟩) ::
  (nat_lit 564, fnO (stF 70) rfl (.ofString "do_action") .none .none .none (.str (.ofString "joinedhand.nested") 919) none (.ref 563) .none 0) ::
  (nat_lit 570, ⟨.type "code", none, .fields #[.str (.ofString "do_actions") 1018, .str (.ofString "do_actions") 1019, .str (.ofString "/claim/cut.py") 1020, .int 438 0, .int 4 0, .int 0 0, .int 0 0, .int 3 0, .ref 565, .bool true, .int 181 0, .ref 566, .none, .ref 567, .ref 568, .ref 569, .int 1026 0, .int 438 0, .str (.ofString "/claim/cut.py") 1027], #[]⟩) ::
  (nat_lit 571, fnO (stF 71) rfl (.ofString "do_actions") .none .none .none (.str (.ofString "joinedhand.nested") 919) none (.ref 570) .none 0) ::
  (nat_lit 577, ⟨.type "code", none, .fields #[.str (.ofString "apply_context") 1029, .str (.ofString "apply_context") 1030, .str (.ofString "/claim/cut.py") 1031, .int 443 0, .int 4 0, .int 0 0, .int 0 0, .int 3 0, .ref 572, .bool true, .int 181 0, .ref 573, .none, .ref 574, .ref 575, .ref 576, .int 1038 0, .int 443 0, .str (.ofString "/claim/cut.py") 1039], #[]⟩) ::
  (nat_lit 578, fnO (stF 72) rfl (.ofString "apply_context") .none .none .none (.str (.ofString "joinedhand.nested") 919) none (.ref 577) .none 0) ::
  (nat_lit 598, ⟨.type "code", none, .fields #[.str (.ofString "__init__") 1069, .str (.ofString "Single.__init__") 1070, .str (.ofString "/claim/cut.py") 1071, .int 467 0, .int 2 0, .int 0 0, .int 0 0, .int 3 0, .ref 593, .bool true, .int 181 0, .ref 594, .none, .ref 595, .ref 596, .ref 597, .int 1074 0, .int 467 0, .str (.ofString "/claim/cut.py") 1075], #[]⟩) ::
  (nat_lit 599, fnO (stM 76 0) rfl (.ofString "Single.__init__") .none .none .none (.str (.ofString "joinedhand.single") 1055) none (.ref 598) .none 0) ::
  (nat_lit 606, ⟨.type "dict", none, .dict #[dE P (.ofString "__module__") 1064 (.str (.ofString "joinedhand.single") 1055), dE P (.ofString "__firstlineno__") 1068 (.int 465 1067), dE P (.ofString "__init__") 1076 (.ref 599), dE P (.ofString "told") 1082 (.ref 604), dE P (.ofString "__static_attributes__") 1084 (.ref 605), dE P (.ofString "__dict__") 1086 (.ref 608), dE P (.ofString "__weakref__") 1088 (.ref 609), dE P (.ofString "__doc__") 1089 .none] 4, #[]⟩) ::
  (nat_lit 607, ⟨.type "type", none, .cls { name := (.ofString "Single"), bases := [.type "object"], mro := [.ref 607, .type "object"], ns := 606, qualname := (.ofString "Single") }, #[none, none, some (.str (.ofString "Single") 1057), some (.str (.ofString "Single") 1065), some (.builtin "object.__new__"), some (.bool true)]⟩) ::
  (nat_lit 617, ⟨.type "code", none, .fields #[.str (.ofString "apply_single") 1092, .str (.ofString "apply_single") 1093, .str (.ofString "/claim/cut.py") 1094, .int 472 0, .int 3 0, .int 0 0, .int 0 0, .int 3 0, .ref 612, .bool true, .int 181 0, .ref 613, .none, .ref 614, .ref 615, .ref 616, .int 1099 0, .int 472 0, .str (.ofString "/claim/cut.py") 1100], #[]⟩) ::
  (nat_lit 618, fnO (stF 77) rfl (.ofString "apply_single") .none .none .none (.str (.ofString "joinedhand.single") 1055) none (.ref 617) .none 0) ::
  (nat_lit 645, ⟨.type "code", none, .fields #[.str (.ofString "apply_table") 1140, .str (.ofString "apply_table") 1141, .str (.ofString "/claim/cut.py") 1142, .int 513 0, .int 4 0, .int 0 0, .int 0 0, .int 3 0, .ref 640, .bool true, .int 181 0, .ref 641, .none, .ref 642, .ref 643, .ref 644, .int 1147 0, .int 513 0, .str (.ofString "/claim/cut.py") 1148], #[]⟩) ::
  (nat_lit 646, fnO (stF 82) rfl (.ofString "apply_table") .none .none .none (.str (.ofString "joinedhand.gsub") 1138) none (.ref 645) .none 0) ::
  (nat_lit 652, ⟨.type "code", none, .fields #[.str (.ofString "substitute_at") 1150, .str (.ofString "substitute_at") 1151, .str (.ofString "/claim/cut.py") 1152, .int 525 0, .int 2 0, .int 0 0, .int 0 0, .int 3 0, .ref 647, .bool true, .int 181 0, .ref 648, .none, .ref 649, .ref 650, .ref 651, .int 1157 0, .int 525 0, .str (.ofString "/claim/cut.py") 1158], #[]⟩) ::
  (nat_lit 653, fnO (stF 83) rfl (.ofString "substitute_at") .none .none .none (.str (.ofString "joinedhand.gsub") 1138) none (.ref 652) .none 0) ::
  (nat_lit 659, ⟨.type "code", none, .fields #[.str (.ofString "run_forward") 1160, .str (.ofString "run_forward") 1161, .str (.ofString "/claim/cut.py") 1162, .int 531 0, .int 1 0, .int 0 0, .int 0 0, .int 3 0, .ref 654, .bool true, .int 181 0, .ref 655, .none, .ref 656, .ref 657, .ref 658, .int 1167 0, .int 531 0, .str (.ofString "/claim/cut.py") 1168], #[]⟩) ::
  (nat_lit 660, fnO (stF 84) rfl (.ofString "run_forward") .none .none .none (.str (.ofString "joinedhand.gsub") 1138) none (.ref 659) .none 0) ::
  (nat_lit 673, ⟨.type "code", none, .fields #[.str (.ofString "run_substitution") 1179, .str (.ofString "run_substitution") 1180, .str (.ofString "/claim/cut.py") 1181, .int 548 0, .int 5 0, .int 0 0, .int 0 0, .int 3 0, .ref 668, .bool true, .int 181 0, .ref 669, .none, .ref 670, .ref 671, .ref 672, .int 1188 0, .int 548 0, .str (.ofString "/claim/cut.py") 1189], #[]⟩) ::
  (nat_lit 674, fnO (stF 86) rfl (.ofString "run_substitution") .none .none .none (.str (.ofString "joinedhand.gsub") 1138) none (.ref 673) .none 0) ::
  (nat_lit 687, ⟨.type "code", none, .fields #[.str (.ofString "__init__") 1205, .str (.ofString "ClassDef.__init__") 1206, .str (.ofString "/claim/cut.py") 1207, .int 556 0, .int 2 0, .int 0 0, .int 0 0, .int 3 0, .ref 682, .bool true, .int 181 0, .ref 683, .none, .ref 684, .ref 685, .ref 686, .int 1210 0, .int 556 0, .str (.ofString "/claim/cut.py") 1211], #[]⟩) ::
  (nat_lit 688, fnO (stM 88 0) rfl (.ofString "ClassDef.__init__") .none .none .none (.str (.ofString "joinedhand.classdefs") 1191) none (.ref 687) .none 0) ::
  (nat_lit 694, ⟨.type "code", none, .fields #[.str (.ofString "class_of") 1213, .str (.ofString "ClassDef.class_of") 1214, .str (.ofString "/claim/cut.py") 1215, .int 559 0, .int 2 0, .int 0 0, .int 0 0, .int 3 0, .ref 689, .bool true, .int 181 0, .ref 690, .none, .ref 691, .ref 692, .ref 693, .int 1218 0, .int 559 0, .str (.ofString "/claim/cut.py") 1219], #[]⟩) ::
  (nat_lit 695, fnO (stM 88 1) rfl (.ofString "ClassDef.class_of") .none .none .none (.str (.ofString "joinedhand.classdefs") 1191) none (.ref 694) .none 0) ::
  (nat_lit 716, ⟨.type "dict", none, .dict #[dE P (.ofString "__module__") 1200 (.str (.ofString "joinedhand.classdefs") 1191), dE P (.ofString "__firstlineno__") 1204 (.int 554 1203), dE P (.ofString "__init__") 1212 (.ref 688), dE P (.ofString "class_of") 1220 (.ref 695), dE P (.ofString "glyphs_of") 1228 (.ref 702), dE P (.ofString "count") 1237 (.ref 709), dE P (.ofString "told") 1243 (.ref 714), dE P (.ofString "__static_attributes__") 1245 (.ref 715), dE P (.ofString "__dict__") 1247 (.ref 718), dE P (.ofString "__weakref__") 1249 (.ref 719), dE P (.ofString "__doc__") 1250 .none] 4, #[]⟩) ::
  (nat_lit 717, ⟨.type "type", none, .cls { name := (.ofString "ClassDef"), bases := [.type "object"], mro := [.ref 717, .type "object"], ns := 716, qualname := (.ofString "ClassDef") }, #[none, none, some (.str (.ofString "ClassDef") 1193), some (.str (.ofString "ClassDef") 1201), some (.builtin "object.__new__"), some (.bool true)]⟩) ::
  (nat_lit 729, ⟨.type "tuple", none, .seq #[.none, .none] 0, #[]⟩) ::
  (nat_lit 735, ⟨.type "code", none, .fields #[.str (.ofString "__init__") 1273, .str (.ofString "Gdef.__init__") 1274, .str (.ofString "/claim/cut.py") 1275, .int 579 0, .int 6 0, .int 0 0, .int 0 0, .int 3 0, .ref 730, .bool true, .int 181 0, .ref 731, .none, .ref 732, .ref 733, .ref 734, .int 1282 0, .int 579 0, .str (.ofString "/claim/cut.py") 1283], #[]⟩) ::
  (nat_lit 736, fnO (stM 93 0) rfl (.ofString "Gdef.__init__") (.ref 729) .none .none (.str (.ofString "joinedhand.gdef") 1253) none (.ref 735) .none 0) ::
  (nat_lit 742, ⟨.type "code", none, .fields #[.str (.ofString "glyph_class") 1285, .str (.ofString "Gdef.glyph_class") 1286, .str (.ofString "/claim/cut.py") 1287, .int 586 0, .int 2 0, .int 0 0, .int 0 0, .int 3 0, .ref 737, .bool true, .int 181 0, .ref 738, .none, .ref 739, .ref 740, .ref 741, .int 1291 0, .int 586 0, .str (.ofString "/claim/cut.py") 1292], #[]⟩) ::
  (nat_lit 743, fnO (stM 93 1) rfl (.ofString "Gdef.glyph_class") .none .none .none (.str (.ofString "joinedhand.gdef") 1253) none (.ref 742) .none 0) ::
  (nat_lit 764, ⟨.type "dict", none, .dict #[dE P (.ofString "__module__") 1268 (.str (.ofString "joinedhand.gdef") 1253), dE P (.ofString "__firstlineno__") 1272 (.int 577 1271), dE P (.ofString "__init__") 1284 (.ref 736), dE P (.ofString "glyph_class") 1293 (.ref 743), dE P (.ofString "attach_class") 1301 (.ref 750), dE P (.ofString "is_in_set") 1310 (.ref 757), dE P (.ofString "told") 1316 (.ref 762), dE P (.ofString "__static_attributes__") 1322 (.ref 763), dE P (.ofString "__dict__") 1324 (.ref 766), dE P (.ofString "__weakref__") 1326 (.ref 767), dE P (.ofString "__doc__") 1327 .none] 4, #[]⟩) ::
  (nat_lit 765, ⟨.type "type", none, .cls { name := (.ofString "Gdef"), bases := [.type "object"], mro := [.ref 765, .type "object"], ns := 764, qualname := (.ofString "Gdef") }, #[none, none, some (.str (.ofString "Gdef") 1261), some (.str (.ofString "Gdef") 1269), some (.builtin "object.__new__"), some (.bool true)]⟩) ::
  (nat_lit 775, ⟨.type "code", none, .fields #[.str (.ofString "no_gdef") 1330, .str (.ofString "no_gdef") 1331, .str (.ofString "/claim/cut.py") 1332, .int 600 0, .int 0 0, .int 0 0, .int 0 0, .int 3 0, .ref 770, .bool true, .int 181 0, .ref 771, .none, .ref 772, .ref 773, .ref 774, .int 1333 0, .int 600 0, .str (.ofString "/claim/cut.py") 1334], #[]⟩) ::
  (nat_lit 776, fnO (stF 94) rfl (.ofString "no_gdef") .none .none .none (.str (.ofString "joinedhand.gdef") 1253) none (.ref 775) .none 0) ::
  (nat_lit 782, ⟨.type "code", none, .fields #[.str (.ofString "_law_draw") 1338, .str (.ofString "_law_draw") 1339, .str (.ofString "/claim/cut.py") 1340, .int 603 0, .int 2 0, .int 0 0, .int 0 0, .int 3 0, .ref 777, .bool true, .int 181 0, .ref 778, .none, .ref 779, .ref 780, .ref 781, .int 1344 0, .int 603 0, .str (.ofString "/claim/cut.py") 1345], #[]⟩) ::
  (nat_lit 783, fnO (stF 96) rfl (.ofString "_law_draw") .none .none .none (.str (.ofString "law_pf0148_01") 1336) none (.ref 782) .none 0) ::
  (nat_lit 789, ⟨.type "code", none, .fields #[.str (.ofString "_law_walk") 1347, .str (.ofString "_law_walk") 1348, .str (.ofString "/claim/cut.py") 1349, .int 609 0, .int 3 0, .int 0 0, .int 0 0, .int 3 0, .ref 784, .bool true, .int 181 0, .ref 785, .none, .ref 786, .ref 787, .ref 788, .int 1354 0, .int 609 0, .str (.ofString "/claim/cut.py") 1355], #[]⟩) ::
  (nat_lit 790, fnO (stF 97) rfl (.ofString "_law_walk") .none .none .none (.str (.ofString "law_pf0148_01") 1336) none (.ref 789) .none 0) ::
  (nat_lit 794, ⟨.type "code", none, .fields #[.str (.ofString "law") 1357, .str (.ofString "law") 1358, .str (.ofString "/claim/cut.py") 1359, .int 617 0, .int 1 0, .int 0 0, .int 0 0, .int 3 0, .ref 791, .bool true, .int 181 0, .ref 792, .none, .none, .none, .ref 793, .int 1360 0, .int 617 0, .str (.ofString "/claim/cut.py") 1361], #[]⟩) ::
  (nat_lit 795, fnO (stF 98) rfl (.ofString "law") .none .none .none (.str (.ofString "law_pf0148_01") 1336) none (.ref 794) .none 0) ::
  []
def hd.keep : List Nat := [98]
def hd.loose : List Str := [.ofString "_wall", .ofString "IGNORE_BASES", .ofString "IGNORE_LIGATURES", .ofString "IGNORE_MARKS", .ofString "USE_SET", .ofString "Lookup", .ofString "Scene", .ofString "attach_wanted", .ofString "class_bit", .ofString "is_ignored", .ofString "passes", .ofString "takes", .ofString "nested_scene", .ofString "Info", .ofString "Buffer", .ofString "set_cluster", .ofString "widened", .ofString "merge", .ofString "hang", .ofString "hand_back", .ofString "drop_cluster", .ofString "put", .ofString "KINDS_IN_INPUT", .ofString "KINDS_AROUND", .ofString "glyph_tests", .ofString "cover_tests", .ofString "fits", .ofString "is_borne", .ofString "found_at", .ofString "input_at", .ofString "last_at", .ofString "ahead_at", .ofString "back_at", .ofString "is_piece", .ofString "hold_together", .ofString "BASE_ligature", .ofString "MARK", .ofString "part_count", .ofString "way_of", .ofString "tie", .ofString "tie_behind", .ofString "tie_all", .ofString "join", .ofString "apply_ligature", .ofString "Coverage", .ofString "coverage_of", .ofString "BY_GLYPHS", .ofString "BY_CLASSES", .ofString "Rule", .ofString "Contexts", .ofString "told_row", .ofString "tests_of", .ofString "rule_tests", .ofString "rules_at", .ofString "MOST_DEPTH", .ofString "MOST_PLACES", .ofString "MOST_ACTIONS", .ofString "Places", .ofString "match_rule", .ofString "inner_scene", .ofString "grow", .ofString "shrink", .ofString "move", .ofString "do_action", .ofString "do_actions", .ofString "apply_context", .ofString "apply_reverse", .ofString "Single", .ofString "apply_single", .ofString "apply_multiple", .ofString "choice_of", .ofString "apply_alternate", .ofString "apply_table", .ofString "substitute_at", .ofString "run_forward", .ofString "run_backward", .ofString "run_substitution", .ofString "ClassDef", .ofString "NO_CLASS", .ofString "BASE_gdef", .ofString "COMPONENT", .ofString "Gdef", .ofString "no_gdef", .ofString "_law_draw", .ofString "_law_walk"]
def hd.view_39 : Program := view PR hd.keep
noncomputable section
def hd.env : Env := { scope := PR.main.scope, locals := mainNs, globals := mainNs, cells := [], code := Value.ref 13, frame := some 14 }
abbrev hd.bE : List Stmt := behindTheImports PR
abbrev hd.p0 : Pos := ⟨0, 0, 0, 0⟩
abbrev hd.cE : Code := .body hd.bE hd.env
def hd.n43 : Obj := { cls := .type "tuple", data := .seq #[] 0 }
def hd.n44 : Obj := { cls := .none, data := .fields #[] }
def hd.n45 : Obj := { cls := .type "code", data := .fields #[.str (Str.ofString "<module>") 182, .str (Str.ofString "<module>") 183, .str (Str.ofString "/claim/cut.py") 184, .int 1 0, .int 0 0, .int 0 0, .int 0 0, .int 0 0, .ref 11, .bool false, .int 181 0, .ref 12, .none, .none, .none, .none, .int 185 0, .int 1 0, .str (Str.ofString "/claim/cut.py") 186] }
def hd.n46 : Obj := { cls := .type "frame", slots := #[some (.ref 13), some (.ref 3), some (.ref 3), none, some (.str (Str.ofString "__main__") 164), none, some (.ref 0)] }
def hd.tr0 (P : Params) : BT :=
  .node (boot_o_0 P)
    (.node (boot_o_1 P)
      (.node (boot_o_3 P) (.node (boot_o_7 P) .nil .nil) (.node hd.n43 .nil .nil))
      (.node (boot_o_5 P) (.node (boot_o_9 P) .nil .nil) (.node hd.n45 .nil .nil)))
    (.node (boot_o_2 P)
      (.node (boot_o_4 P) (.node (boot_o_8 P) .nil .nil) (.node hd.n44 .nil .nil))
      (.node (boot_o_6 P) (.node (boot_o_10 P) .nil .nil) (.node hd.n46 .nil .nil)))
def hd.T0 (w : World) (os : OsState) : SharedT := { tree := hd.tr0 w.params, n := 15, life := {}, gens := #[], drawn := {}, toks := 187, os := os }
def hd.S0 (w : World) (os : OsState) : Shared := { heap := boot_heap w.params, gens := #[], drawn := boot_drawn, toks := boot_toks, os := os }
theorem hd.pre (w : World) (os : OsState) : topGo treeTable PR w 11 (some (.ref 6)) 12 (hd.S0 w os) (topStub PR) = some ((hd.T0 w os).abs, ⟨denote treeTable hd.cE, hd.cE, hd.p0, [topFrame hd.p0]⟩) := by kernel_rfl
theorem hd.blk (w : World) (os : OsState) : segRun treeTable PR w 11 (some (.ref 6)) 1 1 (hd.T0 w os).abs (blockOf hd.bE hd.env hd.cE hd.p0 [topFrame hd.p0]) = some (.next, (hd.T0 w os).abs, hd.cE, hd.p0) := by kernel_rfl
theorem hd.open (w : World) : (fencedOpening treeTable PR w 6000).map (fun s => (s.heap, s.gens, s.drawn, s.toks)) = some (boot_heap w.params, Array.mk [], boot_drawn, boot_toks) := boot_open (by kernel_rfl) rfl (fun s => by kernel_rfl) w
theorem hd.size (w : World) : ((boot_heap w.params).isNs mainGlobals && (Array.mk [] : Array GenState).size == 0, (boot_heap w.params).objs.size, (boot_heap w.params).nsMap mainGlobals "__annotations__") = (true, 11, some (.ref 6)) := by kernel_rfl
theorem hd.done (w : World) (s : Shared) (p : Pos) : topRun treeTable PR w 11 (some (.ref 6)) 2 s ⟨doneF .next, hd.cE, p, [topFrame hd.p0]⟩ = some s := by
  cases s
  kernel_rfl
abbrev hd.Run := Option (Flow × SharedT × Code × Pos)
@[reducible] def fnT {n : Str} {p : Arguments} {b : List Stmt} {dl : List Expr} {rt : Option Expr} {tp : List TypeParam} {sc : Scope} {ts : Option Scope} {bi : Str} {po : Pos} (s : Stmt) (_h : s = .FunctionDef n p b dl rt tp sc ts bi po) (q : Str) : Obj :=
  { cls := .none, data := .func { name := n, qualname := q, params := p, body := .stmts b, scope := sc, globals := 0, closure := [], defaults := .none, kwdefaults := .none } }
@[reducible] def zS (s : String) (t : Tok) : Value := .str (.ofString s) t
@[reducible] def eS (P : Params) (x : String) (t : Tok) (v : Value) : DictEntry := dE P (.ofString x) t v
@[reducible] def cO (n q : String) (t : Nat) (l a f : Int) (r : Addr) (b : Bool) (r2 : Addr) (x1 x2 x3 x4 : Value) (u : Nat) : Obj :=
  ⟨.type "code", none, .fields #[.str (.ofString n) t, .str (.ofString q) t.succ, .str (.ofString "/claim/cut.py") t.succ.succ, .int l 0, .int a 0, .int 0 0, .int 0 0, .int f 0, .ref r, .bool b, .int 181 0, .ref r2, x1, x2, x3, x4, .int u 0, .int l 0, .str (.ofString "/claim/cut.py") u.succ], #[]⟩
@[reducible] def tO (a : Array Value) : Obj := ⟨.type "tuple", none, .seq a 0, #[]⟩
@[reducible] def nO : Obj := ⟨.none, none, .fields #[], #[]⟩
@[reducible] def lf (o : Obj) : BT := .node o .nil .nil
@[reducible] def fO {n : Str} {p : Arguments} {b : List Stmt} {dl : List Expr} {rt : Option Expr} {tp : List TypeParam} {sc : Scope} {ts : Option Scope} {bi : Str} {po : Pos} (s : Stmt) (h : s = .FunctionDef n p b dl rt tp sc ts bi po) (q : String) (dv : Value) (m : String) (t : Tok) (c : Addr) : Obj :=
  fnO s h (.ofString q) dv .none .none (.str (.ofString m) t) none (.ref c) .none 0
@[reducible] def fT {n : Str} {p : Arguments} {b : List Stmt} {dl : List Expr} {rt : Option Expr} {tp : List TypeParam} {sc : Scope} {ts : Option Scope} {bi : Str} {po : Pos} (s : Stmt) (h : s = .FunctionDef n p b dl rt tp sc ts bi po) (q : String) : Obj := fnT s h (.ofString q)
set_option maxHeartbeats 4000000 in
noncomputable def hd.tr1 (P : Params) : BT := (.node (boot_o_0 P) (.node ⟨.type "dict", none, .dict #[eS P "builtins" 162 (.ref 4), eS P "__main__" 163 (.ref 5)] 2, #[]⟩ (.node ⟨.type "dict", none, .dict #[eS P "__name__" 165 (zS "joinedhand.ligature" 629), eS P "__doc__" 166 .none, eS P "__package__" 167 .none, eS P "__loader__" 168 (.builtin "__main__.__loader__#opaque"), eS P "__spec__" 169 .none, eS P "__annotations__" 170 (.ref 6), eS P "__builtins__" 171 (.ref 4), eS P "__file__" 173 (zS "/claim/cut.py" 172), eS P "__cached__" 174 .none, eS P "_wall" 193 (.ref 21), eS P "IGNORE_BASES" 197 (.int 2 196), eS P "IGNORE_LIGATURES" 199 (.int 4 198), eS P "IGNORE_MARKS" 201 (.int 8 200), eS P "USE_SET" 203 (.int 16 202), eS P "Lookup" 244 (.ref 43), eS P "Scene" 285 (.ref 65), eS P "attach_wanted" 292 (.ref 76), eS P "class_bit" 299 (.ref 83), eS P "is_ignored" 310 (.ref 90), eS P "passes" 318 (.ref 97), eS P "takes" 326 (.ref 104), eS P "nested_scene" 335 (.ref 111), eS P "Info" 398 (.ref 142), eS P "Buffer" 463 (.ref 193), eS P "set_cluster" 471 (.ref 204), eS P "widened" 482 (.ref 211), eS P "merge" 488 (.ref 216), eS P "hang" 494 (.ref 221), eS P "hand_back" 505 (.ref 228), eS P "drop_cluster" 511 (.ref 233), eS P "put" 517 (.ref 238), eS P "KINDS_IN_INPUT" 522 (.ref 239), eS P "KINDS_AROUND" 526 (.ref 240), eS P "glyph_tests" 532 (.ref 245), eS P "cover_tests" 538 (.ref 250), eS P "fits" 546 (.ref 257), eS P "is_borne" 554 (.ref 264), eS P "found_at" 568 (.ref 271), eS P "input_at" 580 (.ref 278), eS P "last_at" 592 (.ref 285), eS P "ahead_at" 601 (.ref 292), eS P "back_at" 610 (.ref 299), eS P "is_piece" 617 (.ref 306), eS P "hold_together" 628 (.ref 313), eS P "BASE_ligature" 632 (.int 1 631)] 45, #[]⟩ (.node (tO #[]) (.node (tO #[]) (.node (tO #[zS "self" 219, zS "kind" 220, zS "flag" 221, zS "mark_set" 222, zS "tables" 223]) (.node (tO #[zS "buffer" 271, zS "depth" 272, zS "gdef" 273, zS "lookup" 274, zS "lookups" 275, zS "mask" 276, zS "steps" 277]) (.node nO (lf (fT (stF 29) rfl "fits")) .nil) (lf (tO #[zS "is_backward" 452, zS "last_lig" 453, zS "last_split" 454, zS "row" 455]))) (.node (fT (stF 11) rfl "passes") (.node (fT (stM 16 0) rfl "Buffer.__init__") (lf nO) .nil) (lf nO))) (.node ⟨.type "builtin_function_or_method", none, .fields #[.builtin "object.__init_subclass__", .ref 43], #[]⟩ (.node (tO #[zS "number" 296]) (.node ⟨.type "getset_descriptor", none, .fields #[zS "__dict__" 392, .ref 142, .builtin "function.__dict__", .builtin "function.__dict__#set"], #[]⟩ (lf (fO (stF 31) rfl "found_at" .none "joinedhand.matching" 518 270)) .nil) (lf (tO #[zS "row" 475, zS "begin" 476, zS "end" 477, zS "first" 478, zS "behind" 479]))) (.node (fO (stF 13) rfl "nested_scene" .none "joinedhand.flags" 194 110) (.node (cO "told" "Buffer.told" 432 108 1 3 172 true 173 .none .none .none (.ref 174) 435) (lf (tO #[])) .nil) (lf (tO #[zS "zwj" 520, zS "hidden" 521]))))) (.node ⟨.type "builtin_function_or_method", none, .fields #[.builtin "type.__prepare__", .type "type"], #[]⟩ (.node (cO "told" "Lookup.told" 227 17 1 3 36 true 37 .none .none .none (.ref 38) 230) (.node nO (.node (tO #[zS "self" 371]) (lf (cO "is_borne" "is_borne" 547 192 2 3 258 true 259 .none (.ref 260) (.ref 261) (.ref 262) 552)) .nil) (lf nO)) (.node (cO "takes" "takes" 319 46 2 3 98 true 99 .none (.ref 100) (.ref 101) (.ref 102) 324) (.node (tO #[]) (lf (tO #[zS "scene" 605, zS "at" 606, zS "tests" 607])) .nil) (lf (fT (stF 22) rfl "drop_cluster")))) (.node (tO #[.int 0 257]) (.node (tO #[]) (.node ⟨.none, none, .fields #[.int 96 0, .int 4 0, .ref 160, .int 102 0, .int 4 0, .ref 165, .int 105 0, .int 4 0, .ref 170, .int 108 0, .int 4 0, .ref 175, .int 111 0, .int 4 0, .ref 182, .int 115 0, .int 4 0, .ref 189], #[]⟩ (lf (tO #[])) .nil) (lf (cO "merge" "merge" 483 130 3 3 212 true 213 .none .none .none (.ref 214) 486))) (.node (tO #[]) (.node (fO (stM 16 4) rfl "Buffer.next_lig" .none "joinedhand.buffer" 336 182) (lf (fT (stF 37) rfl "hold_together")) .nil) (lf nO))))) (.node (tO #[]) (.node (fT (stF 0) rfl "_wall") (.node (fO (stM 6 0) rfl "Lookup.__init__" .none "joinedhand.flags" 194 34) (.node ⟨.type "getset_descriptor", none, .fields #[zS "__weakref__" 281, .ref 65, .builtin "ExceptionGroup.__weakref__", .none], #[]⟩ (.node (cO "copied" "Info.copied" 360 75 1 3 126 true 127 .none (.ref 128) (.ref 129) (.ref 130) 365) (lf nO) .nil) (lf ⟨.type "getset_descriptor", none, .fields #[zS "__weakref__" 459, .ref 193, .builtin "ExceptionGroup.__weakref__", .none], #[]⟩)) (.node nO (.node nO (lf (cO "ahead_at" "ahead_at" 593 222 3 3 286 true 287 .none (.ref 288) (.ref 289) (.ref 290) 599)) .nil) (lf (cO "hand_back" "hand_back" 495 145 3 3 222 true 223 .none (.ref 224) (.ref 225) (.ref 226) 503)))) (.node (tO #[]) (.node (fO (stF 9) rfl "class_bit" .none "joinedhand.flags" 194 82) (.node (tO #[]) (lf (tO #[])) .nil) (lf (fO (stF 18) rfl "widened" .none "joinedhand.buffer" 336 210))) (.node (tO #[]) (.node (tO #[zS "self" 441]) (lf (tO #[])) .nil) (lf (fT (stF 27) rfl "glyph_tests"))))) (.node (cO "Lookup" "Lookup" 206 9 0 0 25 false 26 .none .none .none .none 209) (.node ⟨.type "type", none, .cls { name := (.ofString "Lookup"), bases := [.type "object"], mro := [.ref 43, .type "object"], ns := 42, qualname := (.ofString "Lookup") }, #[none, none, some (zS "Lookup" 204), some (zS "Lookup" 212), some (.builtin "object.__new__"), some (.bool true)]⟩ (.node (cO "attach_wanted" "attach_wanted" 286 30 1 3 70 true 71 .none (.ref 72) (.ref 73) (.ref 74) 290) (.node (fO (stM 15 2) rfl "Info.told" .none "joinedhand.buffer" 336 138) (lf (tO #[zS "scene" 558, zS "at" 559, zS "step" 560, zS "test" 561, zS "kinds" 562, zS "is_input" 563, zS "here" 564, zS "info" 565])) .nil) (lf (cO "set_cluster" "set_cluster" 464 118 2 3 198 true 199 .none (.ref 200) (.ref 201) (.ref 202) 469))) (.node (tO #[zS "scene" 330, zS "number" 331, zS "found" 332]) (.node (fO (stM 16 2) rfl "Buffer.clusters" .none "joinedhand.buffer" 336 170) (lf (fO (stF 35) rfl "back_at" .none "joinedhand.matching" 518 298)) .nil) (lf nO))) (.node (tO #[]) (.node (tO #[]) (.node (tO #[]) (lf (fT (stF 33) rfl "last_at")) .nil) (lf (fT (stF 20) rfl "hang"))) (.node (fT (stM 15 0) rfl "Info.__init__") (lf (tO #[])) (lf (tO #[]))))))) (.node ⟨.type "module", (some 3), .plain, #[]⟩ (.node ⟨.type "code", none, .fields #[zS "<module>" 176, zS "<module>" 177, zS "/claim/cut.py" 178, .int 1 0, .int 0 0, .int 0 0, .int 0 0, .int 0 0, .ref 7, .bool false, .int 175 0, .ref 8, .none, .none, .none, .none, .int 179 0, .int 1 0, zS "/claim/cut.py" 180], #[]⟩ (.node (tO #[zS "k" 190]) (.node (fT (stM 6 0) rfl "Lookup.__init__") (.node ⟨.type "type", none, .cls { name := (.ofString "Scene"), bases := [.type "object"], mro := [.ref 65, .type "object"], ns := 64, qualname := (.ofString "Scene") }, #[none, none, some (zS "Scene" 245), some (zS "Scene" 253), some (.builtin "object.__new__"), some (.bool true)]⟩ (.node (tO #[]) (lf (fO (stF 29) rfl "fits" .none "joinedhand.matching" 518 256)) .nil) (lf ⟨.type "type", none, .cls { name := (.ofString "Buffer"), bases := [.type "object"], mro := [.ref 193, .type "object"], ns := 192, qualname := (.ofString "Buffer") }, #[none, none, some (zS "Buffer" 399), some (zS "Buffer" 407), some (.builtin "object.__new__"), some (.bool true)]⟩)) (.node (fO (stF 11) rfl "passes" .none "joinedhand.flags" 194 96) (.node (fO (stM 16 0) rfl "Buffer.__init__" (.ref 154) "joinedhand.buffer" 336 160) (lf (tO #[])) .nil) (lf (tO #[])))) (.node ⟨.type "builtin_function_or_method", none, .fields #[.builtin "type.__prepare__", .type "type"], #[]⟩ (.node (fT (stF 9) rfl "class_bit") (.node ⟨.type "super", none, .fields #[.ref 142, .ref 142, .ref 142], #[]⟩ (lf nO) .nil) (lf (fT (stF 18) rfl "widened"))) (.node ⟨.type "builtin_function_or_method", none, .fields #[.builtin "type.__prepare__", .type "type"], #[]⟩ (.node (tO #[]) (lf (cO "is_piece" "is_piece" 611 226 1 3 300 true 301 .none (.ref 302) (.ref 303) (.ref 304) 615)) .nil) (lf (tO #[]))))) (.node (tO #[]) (.node (tO #[zS "flag" 233, zS "kind" 234, zS "mark_set" 235, zS "tables" 236]) (.node (tO #[]) (.node (fT (stM 15 2) rfl "Info.told") (lf (tO #[])) .nil) (lf (tO #[]))) (.node (tO #[]) (.node (fT (stM 16 2) rfl "Buffer.clusters") (lf (fT (stF 35) rfl "back_at")) .nil) (lf (fO (stF 22) rfl "drop_cluster" .none "joinedhand.buffer" 336 232)))) (.node nO (.node (cO "is_ignored" "is_ignored" 300 34 3 3 84 true 85 .none (.ref 86) (.ref 87) (.ref 88) 308) (.node ⟨.type "frame", none, .plain, #[some (.ref 152), some (.ref 3), some (.ref 149), none, some (zS "joinedhand.buffer" 336), none, some (.ref 0)]⟩ (lf (tO #[zS "scene" 584, zS "at" 585, zS "step" 586, zS "tests" 587, zS "here" 588, zS "test" 589])) .nil) (lf (tO #[]))) (.node (tO #[zS "self" 353, zS "code" 354, zS "glyph" 355, zS "cluster" 356]) (.node nO (lf (fO (stF 37) rfl "hold_together" .none "joinedhand.matching" 518 312)) .nil) (lf (cO "cover_tests" "cover_tests" 533 184 1 3 246 true 247 .none .none .none (.ref 248) 536)))))) (.node (cO "<module>" "<module>" 182 1 0 0 11 false 12 .none .none .none .none 185) (.node (fO (stF 0) rfl "_wall" .none "__main__" 164 20) (.node nO (.node ⟨.type "builtin_function_or_method", none, .fields #[.builtin "object.__init_subclass__", .ref 65], #[]⟩ (.node (tO #[]) (lf (tO #[])) .nil) (lf ⟨.type "builtin_function_or_method", none, .fields #[.builtin "object.__init_subclass__", .ref 193], #[]⟩)) (.node (tO #[]) (.node (cO "glyphs" "Buffer.glyphs" 420 102 1 3 162 true 163 .none .none .none (.ref 164) 423) (lf (tO #[])) .nil) (lf (tO #[])))) (.node (cO "Scene" "Scene" 247 20 0 0 51 false 52 .none .none .none .none 250) (.node nO (.node ⟨.type "dict", none, .dict #[eS P "__module__" 406 (zS "joinedhand.buffer" 336), eS P "__qualname__" 408 (zS "Buffer" 407), eS P "__firstlineno__" 410 (.int 94 409), eS P "__init__" 419 (.ref 161), eS P "glyphs" 425 (.ref 166), eS P "clusters" 431 (.ref 171), eS P "told" 437 (.ref 176), eS P "next_lig" 444 (.ref 183), eS P "next_split" 451 (.ref 190), eS P "__static_attributes__" 456 (.ref 191)] 10, #[]⟩ (lf (cO "input_at" "input_at" 569 205 3 3 272 true 273 .none (.ref 274) (.ref 275) (.ref 276) 578)) .nil) (lf nO)) (.node (cO "Info" "Info" 340 55 0 0 115 false 116 .none .none .none .none 343) (.node (fT (stM 16 4) rfl "Buffer.next_lig") (lf (tO #[zS "row" 621, zS "positions" 622, zS "first" 623, zS "at" 624, zS "other" 625])) .nil) (lf (fO (stF 27) rfl "glyph_tests" .none "joinedhand.matching" 518 244))))) (.node (tO #[]) (.node ⟨.type "getset_descriptor", none, .fields #[zS "__weakref__" 240, .ref 43, .builtin "ExceptionGroup.__weakref__", .none], #[]⟩ (.node (tO #[]) (.node ⟨.type "dict", none, .dict #[eS P "__module__" 345 (zS "joinedhand.buffer" 336), eS P "__firstlineno__" 349 (.int 55 348), eS P "__init__" 359 (.ref 125), eS P "copied" 367 (.ref 132), eS P "told" 374 (.ref 139), eS P "__static_attributes__" 391 (.ref 140), eS P "__dict__" 393 (.ref 143), eS P "__weakref__" 395 (.ref 144), eS P "__doc__" 396 .none] 4, #[]⟩ (lf (fT (stF 31) rfl "found_at")) .nil) (lf (tO #[]))) (.node (fT (stF 13) rfl "nested_scene") (.node nO (lf nO) .nil) (lf (cO "put" "put" 512 164 4 3 234 true 235 .none .none .none (.ref 236) 515)))) (.node (cO "__init__" "Scene.__init__" 258 22 7 3 56 true 57 .none (.ref 58) (.ref 59) (.ref 60) 268) (.node (tO #[zS "scene" 314, zS "at" 315]) (.node (tO #[zS "self" 414, zS "infos" 415, zS "is_backward" 416]) (lf (fO (stF 33) rfl "last_at" .none "joinedhand.matching" 518 284)) .nil) (lf (fO (stF 20) rfl "hang" .none "joinedhand.buffer" 336 220))) (.node (fO (stM 15 0) rfl "Info.__init__" .none "joinedhand.buffer" 336 124) (lf (cO "next_split" "Buffer.next_split" 445 115 1 3 184 true 185 .none (.ref 186) (.ref 187) (.ref 188) 449)) (lf (tO #[zS "test" 542, zS "glyph" 543])))))))) (.node ⟨.none, none, .dict #[] 0, #[]⟩ (.node ⟨.type "module", (some 0), .plain, #[]⟩ (.node nO (.node nO (.node (tO #[]) (.node ⟨.type "dict", none, .dict #[eS P "__module__" 252 (zS "joinedhand.flags" 194), eS P "__firstlineno__" 256 (.int 20 255), eS P "__init__" 270 (.ref 62), eS P "__static_attributes__" 278 (.ref 63), eS P "__dict__" 280 (.ref 66), eS P "__weakref__" 282 (.ref 67), eS P "__doc__" 283 .none] 4, #[]⟩ (.node (tO #[zS "self" 363, zS "found" 364]) (lf (cO "fits" "fits" 539 186 2 3 251 true 252 .none (.ref 253) (.ref 254) (.ref 255) 544)) .nil) (lf ⟨.type "dict", none, .dict #[eS P "__module__" 406 (zS "joinedhand.buffer" 336), eS P "__firstlineno__" 410 (.int 94 409), eS P "__init__" 419 (.ref 161), eS P "glyphs" 425 (.ref 166), eS P "clusters" 431 (.ref 171), eS P "told" 437 (.ref 176), eS P "next_lig" 444 (.ref 183), eS P "next_split" 451 (.ref 190), eS P "__static_attributes__" 456 (.ref 191), eS P "__dict__" 458 (.ref 194), eS P "__weakref__" 460 (.ref 195), eS P "__doc__" 461 .none] 4, #[]⟩)) (.node (cO "passes" "passes" 311 44 2 3 91 true 92 .none (.ref 93) (.ref 94) (.ref 95) 316) (.node (cO "__init__" "Buffer.__init__" 411 96 3 3 155 true 156 .none (.ref 157) (.ref 158) (.ref 159) 417) (lf (tO #[zS "scene" 596, zS "at" 597, zS "tests" 598])) .nil) (lf (tO #[zS "row" 498, zS "at" 499, zS "cluster" 500, zS "before" 501, zS "spot" 502])))) (.node (tO #[]) (.node (tO #[]) (.node ⟨.type "getset_descriptor", none, .fields #[zS "__weakref__" 394, .ref 142, .builtin "ExceptionGroup.__weakref__", .none], #[]⟩ (lf (tO #[])) .nil) (lf (tO #[]))) (.node (tO #[]) (.node (fO (stM 16 3) rfl "Buffer.told" .none "joinedhand.buffer" 336 175) (lf (fT (stF 36) rfl "is_piece")) .nil) (lf (tO #[zS "zwj" 523, zS "zwnj" 524, zS "hidden" 525]))))) (.node ⟨.type "dict", none, .dict #[eS P "__module__" 211 (zS "joinedhand.flags" 194), eS P "__qualname__" 213 (zS "Lookup" 212), eS P "__firstlineno__" 215 (.int 9 214), eS P "__init__" 226 (.ref 35), eS P "told" 232 (.ref 40), eS P "__static_attributes__" 237 (.ref 41)] 6, #[]⟩ (.node (fO (stM 6 1) rfl "Lookup.told" .none "joinedhand.flags" 194 39) (.node (tO #[zS "flag" 289]) (.node (tO #[]) (lf (fO (stF 30) rfl "is_borne" .none "joinedhand.matching" 518 263)) .nil) (lf (tO #[zS "info" 467, zS "cluster" 468]))) (.node (fO (stF 12) rfl "takes" .none "joinedhand.flags" 194 103) (.node nO (lf (tO #[])) .nil) (lf (cO "drop_cluster" "drop_cluster" 506 151 2 3 229 true 230 .none .none .none (.ref 231) 509)))) (.node (tO #[]) (.node (fT (stF 10) rfl "is_ignored") (.node (cO "Buffer" "Buffer" 401 94 0 0 150 false 151 .none .none .none .none 404) (lf nO) .nil) (lf (fO (stF 19) rfl "merge" .none "joinedhand.buffer" 336 215))) (.node nO (.node (tO #[]) (lf (cO "hold_together" "hold_together" 618 228 2 3 307 true 308 .none (.ref 309) (.ref 310) (.ref 311) 626)) .nil) (lf (fT (stF 28) rfl "cover_tests")))))) (.node ⟨.none, none, .fields #[.int 1 0, .int 0 0, .ref 20, .int 9 0, .int 0 0, .ref 27, .int 20 0, .int 0 0, .ref 53, .int 30 0, .int 0 0, .ref 75, .int 32 0, .int 0 0, .ref 82, .int 34 0, .int 0 0, .ref 89, .int 44 0, .int 0 0, .ref 96, .int 46 0, .int 0 0, .ref 103, .int 48 0, .int 0 0, .ref 110, .int 55 0, .int 0 0, .ref 117, .int 94 0, .int 0 0, .ref 152, .int 118 0, .int 0 0, .ref 203, .int 122 0, .int 0 0, .ref 210, .int 130 0, .int 0 0, .ref 215, .int 137 0, .int 0 0, .ref 220, .int 145 0, .int 0 0, .ref 227, .int 151 0, .int 0 0, .ref 232, .int 164 0, .int 0 0, .ref 237, .int 182 0, .int 0 0, .ref 244, .int 184 0, .int 0 0, .ref 249, .int 186 0, .int 0 0, .ref 256, .int 192 0, .int 0 0, .ref 263, .int 194 0, .int 0 0, .ref 270, .int 205 0, .int 0 0, .ref 277, .int 215 0, .int 0 0, .ref 284, .int 222 0, .int 0 0, .ref 291, .int 224 0, .int 0 0, .ref 298, .int 226 0, .int 0 0, .ref 305, .int 228 0, .int 0 0, .ref 312], #[]⟩ (.node (cO "_wall" "_wall" 187 1 1 3 15 true 16 .none (.ref 17) (.ref 18) (.ref 19) 191) (.node (tO #[]) (.node ⟨.type "super", none, .fields #[.ref 65, .ref 65, .ref 65], #[]⟩ (.node (fO (stM 15 1) rfl "Info.copied" .none "joinedhand.buffer" 336 131) (lf (tO #[zS "scene" 550, zS "info" 551])) .nil) (lf ⟨.type "super", none, .fields #[.ref 193, .ref 193, .ref 193], #[]⟩)) (.node (tO #[zS "scene" 322, zS "at" 323]) (.node (fT (stM 16 1) rfl "Buffer.glyphs") (lf (fO (stF 34) rfl "ahead_at" .none "joinedhand.matching" 518 291)) .nil) (lf (fO (stF 21) rfl "hand_back" .none "joinedhand.buffer" 336 227)))) (.node ⟨.none, none, .fields #[.int 22 0, .int 4 0, .ref 61], #[]⟩ (.node (tO #[]) (.node ⟨.type "builtin_function_or_method", none, .fields #[.builtin "type.__prepare__", .type "type"], #[]⟩ (lf (fT (stF 32) rfl "input_at")) .nil) (lf (tO #[]))) (.node ⟨.none, none, .fields #[.int 57 0, .int 4 0, .ref 124, .int 75 0, .int 4 0, .ref 131, .int 92 0, .int 4 0, .ref 138], #[]⟩ (.node (tO #[]) (lf nO) .nil) (lf (cO "glyph_tests" "glyph_tests" 527 182 1 3 241 true 242 .none .none .none (.ref 243) 530))))) (.node ⟨.type "frame", none, .plain, #[some (.ref 27), some (.ref 3), some (.ref 24), none, some (zS "joinedhand.flags" 194), none, some (.ref 0)]⟩ (.node ⟨.type "getset_descriptor", none, .fields #[zS "__dict__" 238, .ref 43, .builtin "function.__dict__", .builtin "function.__dict__#set"], #[]⟩ (.node (fO (stF 8) rfl "attach_wanted" .none "joinedhand.flags" 194 75) (.node (tO #[zS "bond" 375, zS "cluster" 376, zS "code" 377, zS "glyph" 378, zS "is_unsafe" 379, zS "kind" 380, zS "lig_count" 381, zS "lig_id" 382, zS "lig_part" 383, zS "mask" 384, zS "parent" 385, zS "split_id" 386, zS "x_advance" 387, zS "x_offset" 388, zS "y_advance" 389, zS "y_offset" 390]) (lf (tO #[])) .nil) (lf (fO (stF 17) rfl "set_cluster" .none "joinedhand.buffer" 336 203))) (.node (tO #[]) (.node (tO #[]) (lf (tO #[])) .nil) (lf (fT (stF 23) rfl "put")))) (.node (fT (stM 7 0) rfl "Scene.__init__") (.node nO (.node nO (lf (cO "last_at" "last_at" 581 215 4 3 279 true 280 .none (.ref 281) (.ref 282) (.ref 283) 590)) .nil) (lf (cO "hang" "hang" 489 137 3 3 217 true 218 .none .none .none (.ref 219) 492))) (.node (cO "__init__" "Info.__init__" 350 57 4 3 119 true 120 .none (.ref 121) (.ref 122) (.ref 123) 357) (lf (fT (stM 16 5) rfl "Buffer.next_split")) (lf nO)))))) (.node ⟨.type "dict", none, .dict #[] 0, #[]⟩ (.node ⟨.type "frame", none, .plain, #[some (.ref 9), some (.ref 3), some (.ref 3), none, some (zS "__main__" 164), none, some (.ref 0)]⟩ (.node (tO #[]) (.node (cO "__init__" "Lookup.__init__" 216 11 5 3 29 true 30 .none (.ref 31) (.ref 32) (.ref 33) 224) (.node ⟨.type "getset_descriptor", none, .fields #[zS "__dict__" 279, .ref 65, .builtin "function.__dict__", .builtin "function.__dict__#set"], #[]⟩ (.node (fT (stM 15 1) rfl "Info.copied") (lf (tO #[])) .nil) (lf ⟨.type "getset_descriptor", none, .fields #[zS "__dict__" 457, .ref 193, .builtin "function.__dict__", .builtin "function.__dict__#set"], #[]⟩)) (.node (tO #[]) (.node (tO #[]) (lf (fT (stF 34) rfl "ahead_at")) .nil) (lf (fT (stF 21) rfl "hand_back")))) (.node ⟨.type "dict", none, .dict #[eS P "__module__" 252 (zS "joinedhand.flags" 194), eS P "__qualname__" 254 (zS "Scene" 253), eS P "__firstlineno__" 256 (.int 20 255), eS P "__init__" 270 (.ref 62), eS P "__static_attributes__" 278 (.ref 63)] 5, #[]⟩ (.node (cO "class_bit" "class_bit" 293 32 1 3 77 true 78 .none (.ref 79) (.ref 80) (.ref 81) 297) (.node ⟨.type "builtin_function_or_method", none, .fields #[.builtin "object.__init_subclass__", .ref 142], #[]⟩ (lf (tO #[zS "scene" 572, zS "at" 573, zS "tests" 574, zS "found" 575, zS "test" 576, zS "here" 577])) .nil) (lf (cO "widened" "widened" 472 122 3 3 205 true 206 .none (.ref 207) (.ref 208) (.ref 209) 480))) (.node ⟨.type "dict", none, .dict #[eS P "__module__" 345 (zS "joinedhand.buffer" 336), eS P "__qualname__" 347 (zS "Info" 346), eS P "__firstlineno__" 349 (.int 55 348), eS P "__init__" 359 (.ref 125), eS P "copied" 367 (.ref 132), eS P "told" 374 (.ref 139), eS P "__static_attributes__" 391 (.ref 140)] 7, #[]⟩ (.node nO (lf (fO (stF 36) rfl "is_piece" .none "joinedhand.matching" 518 305)) .nil) (lf nO)))) (.node ⟨.none, none, .fields #[.int 11 0, .int 4 0, .ref 34, .int 17 0, .int 4 0, .ref 39], #[]⟩ (.node ⟨.type "dict", none, .dict #[eS P "__module__" 211 (zS "joinedhand.flags" 194), eS P "__firstlineno__" 215 (.int 9 214), eS P "__init__" 226 (.ref 35), eS P "told" 232 (.ref 40), eS P "__static_attributes__" 237 (.ref 41), eS P "__dict__" 239 (.ref 44), eS P "__weakref__" 241 (.ref 45), eS P "__doc__" 242 .none] 4, #[]⟩ (.node (fT (stF 8) rfl "attach_wanted") (.node (cO "told" "Info.told" 368 92 1 3 133 true 134 .none (.ref 135) (.ref 136) (.ref 137) 372) (lf nO) .nil) (lf (fT (stF 17) rfl "set_cluster"))) (.node nO (.node (cO "clusters" "Buffer.clusters" 426 105 1 3 167 true 168 .none .none .none (.ref 169) 429) (lf (cO "back_at" "back_at" 602 224 3 3 293 true 294 .none (.ref 295) (.ref 296) (.ref 297) 608)) .nil) (lf (tO #[])))) (.node (tO #[zS "self" 261, zS "buffer" 262, zS "gdef" 263, zS "lookups" 264, zS "lookup" 265, zS "mask" 266, zS "depth" 267]) (.node (fO (stF 10) rfl "is_ignored" .none "joinedhand.flags" 194 89) (.node (tO #[.bool false]) (lf (tO #[])) .nil) (lf nO)) (.node (tO #[]) (lf (tO #[zS "self" 448])) (lf (fO (stF 28) rfl "cover_tests" .none "joinedhand.matching" 518 249)))))) (.node ⟨.type "frame", none, .plain, #[some (.ref 13), some (.ref 3), some (.ref 3), none, some (zS "__main__" 164), none, some (.ref 0)]⟩ (.node (tO #[]) (.node (fT (stM 6 1) rfl "Lookup.told") (.node (tO #[]) (.node nO (lf (fT (stF 30) rfl "is_borne")) .nil) (lf (tO #[]))) (.node (fT (stF 12) rfl "takes") (.node (fO (stM 16 1) rfl "Buffer.glyphs" .none "joinedhand.buffer" 336 165) (lf nO) .nil) (lf nO))) (.node ⟨.type "frame", none, .plain, #[some (.ref 53), some (.ref 3), some (.ref 50), none, some (zS "joinedhand.flags" 194), none, some (.ref 0)]⟩ (.node (tO #[zS "gdef" 303, zS "lookup" 304, zS "glyph" 305, zS "number" 306, zS "wanted" 307]) (.node (tO #[]) (lf (fO (stF 32) rfl "input_at" .none "joinedhand.matching" 518 277)) .nil) (lf (fT (stF 19) rfl "merge"))) (.node ⟨.type "frame", none, .plain, #[some (.ref 117), some (.ref 3), some (.ref 114), none, some (zS "joinedhand.buffer" 336), none, some (.ref 0)]⟩ (.node (cO "next_lig" "Buffer.next_lig" 438 111 1 3 177 true 178 .none (.ref 179) (.ref 180) (.ref 181) 442) (lf (tO #[])) .nil) (lf (tO #[]))))) (.node nO (.node ⟨.type "super", none, .fields #[.ref 43, .ref 43, .ref 43], #[]⟩ (.node nO (.node ⟨.type "type", none, .cls { name := (.ofString "Info"), bases := [.type "object"], mro := [.ref 142, .type "object"], ns := 141, qualname := (.ofString "Info") }, #[none, none, some (zS "Info" 338), some (zS "Info" 346), some (.builtin "object.__new__"), some (.bool true)]⟩ (lf (cO "found_at" "found_at" 555 194 6 3 265 true 266 .none (.ref 267) (.ref 268) (.ref 269) 566)) .nil) (lf nO)) (.node (cO "nested_scene" "nested_scene" 327 48 2 3 105 true 106 .none (.ref 107) (.ref 108) (.ref 109) 333) (.node (fT (stM 16 3) rfl "Buffer.told") (lf (tO #[zS "info" 614])) .nil) (lf (fO (stF 23) rfl "put" .none "joinedhand.buffer" 336 237)))) (.node (fO (stM 7 0) rfl "Scene.__init__" (.ref 55) "joinedhand.flags" 194 61) (.node (tO #[]) (.node (tO #[]) (lf (tO #[])) .nil) (lf (tO #[]))) (.node (tO #[]) (lf (fO (stM 16 5) rfl "Buffer.next_split" .none "joinedhand.buffer" 336 189)) (lf (tO #[])))))))))
noncomputable def hd.S1 (w : World) (os : OsState) : SharedT := { tree := hd.tr1 w.params, n := 314, life := {}, gens := #[], drawn := {}, toks := 633, os := os }
abbrev hd.q1 : Pos := ⟨239, 0, 239, 13⟩
abbrev hd.b0 : List Stmt := (hd.bE.drop 0).take 40
theorem hd.seg0 (w : World) (os : OsState) : Fast.tw10110043849684766642 Fast.tw14364793385576792824 PR w 11 (some (Value.ref 6)) 1 2026 (hd.T0 w os) (piecesOf hd.b0 hd.env hd.cE hd.p0 [topFrame hd.p0]) = some (.next, hd.S1 w os, hd.cE, hd.q1) := by kernel_rfl
theorem hd.sg0 (w : World) (os : OsState) : segRunT treeTable PR w 11 (some (.ref 6)) 1 2026 (hd.T0 w os) (piecesOf hd.b0 hd.env hd.cE hd.p0 [topFrame hd.p0]) = some (.next, hd.S1 w os, hd.cE, hd.q1) := by
  rw [Fast.te10110043849684766642, Fast.te14364793385576792824]
  exact hd.seg0 w os
set_option maxHeartbeats 4000000 in
noncomputable def hd.tr2 (P : Params) : BT := (.node (boot_o_0 P) (.node ⟨.type "dict", none, .dict #[eS P "builtins" 162 (.ref 4), eS P "__main__" 163 (.ref 5)] 2, #[]⟩ (.node ⟨.type "dict", none, .dict #[eS P "__name__" 165 (zS "joinedhand.nested" 919), eS P "__doc__" 166 .none, eS P "__package__" 167 .none, eS P "__loader__" 168 (.builtin "__main__.__loader__#opaque"), eS P "__spec__" 169 .none, eS P "__annotations__" 170 (.ref 6), eS P "__builtins__" 171 (.ref 4), eS P "__file__" 173 (zS "/claim/cut.py" 172), eS P "__cached__" 174 .none, eS P "_wall" 193 (.ref 21), eS P "IGNORE_BASES" 197 (.int 2 196), eS P "IGNORE_LIGATURES" 199 (.int 4 198), eS P "IGNORE_MARKS" 201 (.int 8 200), eS P "USE_SET" 203 (.int 16 202), eS P "Lookup" 244 (.ref 43), eS P "Scene" 285 (.ref 65), eS P "attach_wanted" 292 (.ref 76), eS P "class_bit" 299 (.ref 83), eS P "is_ignored" 310 (.ref 90), eS P "passes" 318 (.ref 97), eS P "takes" 326 (.ref 104), eS P "nested_scene" 335 (.ref 111), eS P "Info" 398 (.ref 142), eS P "Buffer" 463 (.ref 193), eS P "set_cluster" 471 (.ref 204), eS P "widened" 482 (.ref 211), eS P "merge" 488 (.ref 216), eS P "hang" 494 (.ref 221), eS P "hand_back" 505 (.ref 228), eS P "drop_cluster" 511 (.ref 233), eS P "put" 517 (.ref 238), eS P "KINDS_IN_INPUT" 522 (.ref 239), eS P "KINDS_AROUND" 526 (.ref 240), eS P "glyph_tests" 532 (.ref 245), eS P "cover_tests" 538 (.ref 250), eS P "fits" 546 (.ref 257), eS P "is_borne" 554 (.ref 264), eS P "found_at" 568 (.ref 271), eS P "input_at" 580 (.ref 278), eS P "last_at" 592 (.ref 285), eS P "ahead_at" 601 (.ref 292), eS P "back_at" 610 (.ref 299), eS P "is_piece" 617 (.ref 306), eS P "hold_together" 628 (.ref 313), eS P "BASE_ligature" 632 (.int 1 631), eS P "MARK" 634 (.int 3 633), eS P "part_count" 641 (.ref 320), eS P "way_of" 647 (.ref 325), eS P "tie" 658 (.ref 332), eS P "tie_behind" 671 (.ref 339), eS P "tie_all" 687 (.ref 346), eS P "join" 693 (.ref 351), eS P "apply_ligature" 707 (.ref 358), eS P "Coverage" 764 (.ref 396), eS P "coverage_of" 773 (.ref 407), eS P "BY_GLYPHS" 777 (.int 1 776), eS P "BY_CLASSES" 779 (.int 2 778), eS P "Rule" 828 (.ref 438), eS P "Contexts" 888 (.ref 479), eS P "told_row" 894 (.ref 488), eS P "tests_of" 900 (.ref 493), eS P "rule_tests" 912 (.ref 500), eS P "rules_at" 918 (.ref 505), eS P "MOST_DEPTH" 922 (.int 6 921), eS P "MOST_PLACES" 924 (.int 64 923), eS P "MOST_ACTIONS" 926 (.int 256 925), eS P "Places" 957 (.ref 522), eS P "match_rule" 973 (.ref 533), eS P "inner_scene" 981 (.ref 540), eS P "grow" 987 (.ref 545), eS P "shrink" 993 (.ref 550), eS P "move" 1002 (.ref 557)] 72, #[]⟩ (.node (tO #[]) (.node (tO #[]) (.node (tO #[zS "self" 219, zS "kind" 220, zS "flag" 221, zS "mark_set" 222, zS "tables" 223]) (.node (tO #[zS "buffer" 271, zS "depth" 272, zS "gdef" 273, zS "lookup" 274, zS "lookups" 275, zS "mask" 276, zS "steps" 277]) (.node nO (.node (fT (stF 29) rfl "fits") (lf (cO "Places" "Places" 929 389 0 0 509 false 510 .none .none .none .none 932)) .nil) (lf (tO #[]))) (.node (tO #[zS "is_backward" 452, zS "last_lig" 453, zS "last_split" 454, zS "row" 455]) (lf (cO "part_count" "part_count" 635 241 1 3 314 true 315 .none (.ref 316) (.ref 317) (.ref 318) 639)) (lf ⟨.none, none, .fields #[.int 345 0, .int 4 0, .ref 456, .int 352 0, .int 4 0, .ref 461, .int 358 0, .int 4 0, .ref 468, .int 361 0, .int 4 0, .ref 475], #[]⟩))) (.node (fT (stF 11) rfl "passes") (.node (fT (stM 16 0) rfl "Buffer.__init__") (.node nO (lf (fT (stF 67) rfl "grow")) .nil) (lf (tO #[]))) (.node nO (lf (fO (stF 46) rfl "join" .none "joinedhand.ligature" 629 350)) (lf ⟨.type "type", none, .cls { name := (.ofString "Contexts"), bases := [.type "object"], mro := [.ref 479, .type "object"], ns := 478, qualname := (.ofString "Contexts") }, #[none, none, some (zS "Contexts" 829), some (zS "Contexts" 837), some (.builtin "object.__new__"), some (.bool true)]⟩)))) (.node ⟨.type "builtin_function_or_method", none, .fields #[.builtin "object.__init_subclass__", .ref 43], #[]⟩ (.node (tO #[zS "number" 296]) (.node ⟨.type "getset_descriptor", none, .fields #[zS "__dict__" 392, .ref 142, .builtin "function.__dict__", .builtin "function.__dict__#set"], #[]⟩ (.node (fO (stF 31) rfl "found_at" .none "joinedhand.matching" 518 270) (lf (tO #[])) .nil) (lf ⟨.type "super", none, .fields #[.ref 396, .ref 396, .ref 396], #[]⟩)) (.node (tO #[zS "row" 475, zS "begin" 476, zS "end" 477, zS "first" 478, zS "behind" 479]) (lf (tO #[zS "row" 662, zS "at" 663, zS "old_id" 664, zS "lig_id" 665, zS "ahead" 666, zS "count" 667, zS "spot" 668])) (lf (tO #[])))) (.node (fO (stF 13) rfl "nested_scene" .none "joinedhand.flags" 194 110) (.node (cO "told" "Buffer.told" 432 108 1 3 172 true 173 .none .none .none (.ref 174) 435) (lf (tO #[])) (lf (tO #[zS "self" 813]))) (.node (tO #[zS "zwj" 520, zS "hidden" 521]) (lf nO) (lf nO))))) (.node ⟨.type "builtin_function_or_method", none, .fields #[.builtin "type.__prepare__", .type "type"], #[]⟩ (.node (cO "told" "Lookup.told" 227 17 1 3 36 true 37 .none .none .none (.ref 38) 230) (.node nO (.node (tO #[zS "self" 371]) (.node (cO "is_borne" "is_borne" 547 192 2 3 258 true 259 .none (.ref 260) (.ref 261) (.ref 262) 552) (lf (fO (stM 64 0) rfl "Places.__init__" .none "joinedhand.nested" 919 518)) .nil) (lf (fT (stM 49 3) rfl "Coverage.told"))) (.node nO (lf nO) (lf (fT (stM 55 0) rfl "Contexts.__init__")))) (.node (cO "takes" "takes" 319 46 2 3 98 true 99 .none (.ref 100) (.ref 101) (.ref 102) 324) (.node (tO #[]) (.node (tO #[zS "scene" 605, zS "at" 606, zS "tests" 607]) (lf (tO #[])) .nil) (lf nO)) (.node (fT (stF 22) rfl "drop_cluster") (lf (tO #[])) (lf (cO "told_row" "told_row" 889 367 1 3 484 true 485 .none .none .none (.ref 486) 892))))) (.node (tO #[.int 0 257]) (.node (tO #[]) (.node ⟨.none, none, .fields #[.int 96 0, .int 4 0, .ref 160, .int 102 0, .int 4 0, .ref 165, .int 105 0, .int 4 0, .ref 170, .int 108 0, .int 4 0, .ref 175, .int 111 0, .int 4 0, .ref 182, .int 115 0, .int 4 0, .ref 189], #[]⟩ (.node (tO #[]) (lf nO) .nil) (lf (fO (stF 50) rfl "coverage_of" .none "joinedhand.coverage" 708 406))) (.node (cO "merge" "merge" 483 130 3 3 212 true 213 .none .none .none (.ref 214) 486) (lf (tO #[])) (lf nO))) (.node (tO #[]) (.node (fO (stM 16 4) rfl "Buffer.next_lig" .none "joinedhand.buffer" 336 182) (lf (fT (stF 37) rfl "hold_together")) (lf ⟨.type "getset_descriptor", none, .fields #[zS "__dict__" 822, .ref 438, .builtin "function.__dict__", .builtin "function.__dict__#set"], #[]⟩)) (.node nO (lf (tO #[zS "self" 733, zS "glyph" 734, zS "low" 735, zS "high" 736, zS "middle" 737])) (lf (fT (stF 59) rfl "rules_at"))))))) (.node (tO #[]) (.node (fT (stF 0) rfl "_wall") (.node (fO (stM 6 0) rfl "Lookup.__init__" .none "joinedhand.flags" 194 34) (.node ⟨.type "getset_descriptor", none, .fields #[zS "__weakref__" 281, .ref 65, .builtin "ExceptionGroup.__weakref__", .none], #[]⟩ (.node (cO "copied" "Info.copied" 360 75 1 3 126 true 127 .none (.ref 128) (.ref 129) (.ref 130) 365) (.node nO (lf (tO #[zS "self" 942, zS "row" 943, zS "end" 944])) .nil) (lf (tO #[]))) (.node ⟨.type "getset_descriptor", none, .fields #[zS "__weakref__" 459, .ref 193, .builtin "ExceptionGroup.__weakref__", .none], #[]⟩ (lf (fT (stF 42) rfl "way_of")) (lf (tO #[])))) (.node nO (.node nO (.node (cO "ahead_at" "ahead_at" 593 222 3 3 286 true 287 .none (.ref 288) (.ref 289) (.ref 290) 599) (lf nO) .nil) (lf (fT (stM 54 0) rfl "Rule.__init__"))) (.node (cO "hand_back" "hand_back" 495 145 3 3 222 true 223 .none (.ref 224) (.ref 225) (.ref 226) 503) (lf (tO #[])) (lf ⟨.type "builtin_function_or_method", none, .fields #[.builtin "object.__init_subclass__", .ref 479], #[]⟩)))) (.node (tO #[]) (.node (fO (stF 9) rfl "class_bit" .none "joinedhand.flags" 194 82) (.node (tO #[]) (.node (tO #[]) (lf (fT (stF 65) rfl "match_rule")) .nil) (lf (tO #[zS "glyphs" 768, zS "found" 769, zS "glyph" 770]))) (.node (fO (stF 18) rfl "widened" .none "joinedhand.buffer" 336 210) (lf (fO (stF 44) rfl "tie_behind" .none "joinedhand.ligature" 629 338)) (lf (fT (stM 55 2) rfl "Contexts.used_classes")))) (.node (tO #[]) (.node (tO #[zS "self" 441]) (lf (tO #[])) (lf (fO (stM 54 2) rfl "Rule.reach" .none "joinedhand.contexts" 774 434))) (.node (fT (stF 27) rfl "glyph_tests") (lf (cO "__init__" "Coverage.__init__" 722 301 2 3 366 true 367 .none (.ref 368) (.ref 369) (.ref 370) 727)) (lf (cO "rule_tests" "rule_tests" 901 373 2 3 494 true 495 .none (.ref 496) (.ref 497) (.ref 498) 910)))))) (.node (cO "Lookup" "Lookup" 206 9 0 0 25 false 26 .none .none .none .none 209) (.node ⟨.type "type", none, .cls { name := (.ofString "Lookup"), bases := [.type "object"], mro := [.ref 43, .type "object"], ns := 42, qualname := (.ofString "Lookup") }, #[none, none, some (zS "Lookup" 204), some (zS "Lookup" 212), some (.builtin "object.__new__"), some (.bool true)]⟩ (.node (cO "attach_wanted" "attach_wanted" 286 30 1 3 70 true 71 .none (.ref 72) (.ref 73) (.ref 74) 290) (.node (fO (stM 15 2) rfl "Info.told" .none "joinedhand.buffer" 336 138) (.node (tO #[zS "scene" 558, zS "at" 559, zS "step" 560, zS "test" 561, zS "kinds" 562, zS "is_input" 563, zS "here" 564, zS "info" 565]) (lf ⟨.type "getset_descriptor", none, .fields #[zS "__dict__" 951, .ref 522, .builtin "function.__dict__", .builtin "function.__dict__#set"], #[]⟩) .nil) (lf ⟨.type "dict", none, .dict #[eS P "__module__" 717 (zS "joinedhand.coverage" 708), eS P "__firstlineno__" 721 (.int 299 720), eS P "__init__" 729 (.ref 372), eS P "index" 740 (.ref 379), eS P "has" 748 (.ref 386), eS P "told" 755 (.ref 393), eS P "__static_attributes__" 757 (.ref 394), eS P "__dict__" 759 (.ref 397), eS P "__weakref__" 761 (.ref 398), eS P "__doc__" 762 .none] 4, #[]⟩)) (.node (cO "set_cluster" "set_cluster" 464 118 2 3 198 true 199 .none (.ref 200) (.ref 201) (.ref 202) 469) (lf (cO "tie" "tie" 648 247 4 3 326 true 327 .none (.ref 328) (.ref 329) (.ref 330) 656)) (lf nO))) (.node (tO #[zS "scene" 330, zS "number" 331, zS "found" 332]) (.node (fO (stM 16 2) rfl "Buffer.clusters" .none "joinedhand.buffer" 336 170) (.node (fO (stF 35) rfl "back_at" .none "joinedhand.matching" 518 298) (lf (fT (stF 69) rfl "move")) .nil) (lf (cO "told" "Rule.told" 803 338 1 3 422 true 423 .none (.ref 424) (.ref 425) (.ref 426) 807))) (.node nO (lf ⟨.none, none, .fields #[.int 301 0, .int 4 0, .ref 371, .int 304 0, .int 4 0, .ref 378, .int 317 0, .int 4 0, .ref 385, .int 320 0, .int 4 0, .ref 392], #[]⟩) (lf (fT (stF 57) rfl "tests_of"))))) (.node (tO #[]) (.node (tO #[]) (.node (tO #[]) (.node (fT (stF 33) rfl "last_at") (lf (cO "inner_scene" "inner_scene" 974 404 2 3 534 true 535 .none (.ref 536) (.ref 537) (.ref 538) 979)) .nil) (lf (tO #[]))) (.node (fT (stF 20) rfl "hang") (lf (tO #[])) (lf (cO "rules" "Contexts.rules" 866 361 1 3 470 true 471 .none (.ref 472) (.ref 473) (.ref 474) 873)))) (.node (fT (stM 15 0) rfl "Info.__init__") (.node (tO #[]) (lf nO) (lf (tO #[]))) (.node (tO #[]) (lf (fO (stM 49 1) rfl "Coverage.index" .none "joinedhand.coverage" 708 378)) (lf ⟨.type "builtin_function_or_method", none, .fields #[.builtin "type.__prepare__", .type "type"], #[]⟩))))))) (.node ⟨.type "module", (some 3), .plain, #[]⟩ (.node ⟨.type "code", none, .fields #[zS "<module>" 176, zS "<module>" 177, zS "/claim/cut.py" 178, .int 1 0, .int 0 0, .int 0 0, .int 0 0, .int 0 0, .ref 7, .bool false, .int 175 0, .ref 8, .none, .none, .none, .none, .int 179 0, .int 1 0, zS "/claim/cut.py" 180], #[]⟩ (.node (tO #[zS "k" 190]) (.node (fT (stM 6 0) rfl "Lookup.__init__") (.node ⟨.type "type", none, .cls { name := (.ofString "Scene"), bases := [.type "object"], mro := [.ref 65, .type "object"], ns := 64, qualname := (.ofString "Scene") }, #[none, none, some (zS "Scene" 245), some (zS "Scene" 253), some (.builtin "object.__new__"), some (.bool true)]⟩ (.node (tO #[]) (.node (fO (stF 29) rfl "fits" .none "joinedhand.matching" 518 256) (lf (tO #[])) .nil) (lf (cO "has" "Coverage.has" 741 317 2 3 380 true 381 .none (.ref 382) (.ref 383) (.ref 384) 746))) (.node ⟨.type "type", none, .cls { name := (.ofString "Buffer"), bases := [.type "object"], mro := [.ref 193, .type "object"], ns := 192, qualname := (.ofString "Buffer") }, #[none, none, some (zS "Buffer" 399), some (zS "Buffer" 407), some (.builtin "object.__new__"), some (.bool true)]⟩ (lf (tO #[])) (lf ⟨.type "frame", none, .plain, #[some (.ref 448), some (.ref 3), some (.ref 445), none, some (zS "joinedhand.contexts" 774), none, some (.ref 0)]⟩))) (.node (fO (stF 11) rfl "passes" .none "joinedhand.flags" 194 96) (.node (fO (stM 16 0) rfl "Buffer.__init__" (.ref 154) "joinedhand.buffer" 336 160) (.node (tO #[]) (lf (fO (stF 67) rfl "grow" .none "joinedhand.nested" 919 544)) .nil) (lf (tO #[zS "self" 795, zS "back" 796, zS "inside" 797, zS "ahead" 798, zS "actions" 799]))) (.node (tO #[]) (lf nO) (lf ⟨.type "getset_descriptor", none, .fields #[zS "__weakref__" 884, .ref 479, .builtin "ExceptionGroup.__weakref__", .none], #[]⟩)))) (.node ⟨.type "builtin_function_or_method", none, .fields #[.builtin "type.__prepare__", .type "type"], #[]⟩ (.node (fT (stF 9) rfl "class_bit") (.node ⟨.type "super", none, .fields #[.ref 142, .ref 142, .ref 142], #[]⟩ (.node nO (lf (tO #[zS "scene" 961, zS "at" 962, zS "tests" 963, zS "back" 964, zS "inside" 965, zS "ahead" 966, zS "actions" 967, zS "places" 968, zS "begin" 969, zS "end" 970])) .nil) (lf (tO #[]))) (.node (fT (stF 18) rfl "widened") (lf (fT (stF 44) rfl "tie_behind")) (lf (tO #[zS "self" 862])))) (.node ⟨.type "builtin_function_or_method", none, .fields #[.builtin "type.__prepare__", .type "type"], #[]⟩ (.node (tO #[]) (lf (cO "is_piece" "is_piece" 611 226 1 3 300 true 301 .none (.ref 302) (.ref 303) (.ref 304) 615)) (lf (fT (stM 54 2) rfl "Rule.reach"))) (.node (tO #[]) (lf (tO #[])) (lf (tO #[])))))) (.node (tO #[]) (.node (tO #[zS "flag" 233, zS "kind" 234, zS "mark_set" 235, zS "tables" 236]) (.node (tO #[]) (.node (fT (stM 15 2) rfl "Info.told") (.node (tO #[]) (lf ⟨.type "dict", none, .dict #[eS P "__module__" 934 (zS "joinedhand.nested" 919), eS P "__firstlineno__" 938 (.int 389 937), eS P "__init__" 947 (.ref 519), eS P "__static_attributes__" 950 (.ref 520), eS P "__dict__" 952 (.ref 523), eS P "__weakref__" 954 (.ref 524), eS P "__doc__" 955 .none] 4, #[]⟩) .nil) (lf (fO (stM 49 3) rfl "Coverage.told" .none "joinedhand.coverage" 708 392))) (.node (tO #[]) (lf (tO #[])) (lf (fO (stM 55 0) rfl "Contexts.__init__" (.ref 450) "joinedhand.contexts" 774 456)))) (.node (tO #[]) (.node (fT (stM 16 2) rfl "Buffer.clusters") (.node (fT (stF 35) rfl "back_at") (lf (tO #[zS "places" 997, zS "index" 998, zS "change" 999])) .nil) (lf (tO #[]))) (.node (fO (stF 22) rfl "drop_cluster" .none "joinedhand.buffer" 336 232) (lf ⟨.type "dict", none, .dict #[eS P "__module__" 717 (zS "joinedhand.coverage" 708), eS P "__qualname__" 719 (zS "Coverage" 718), eS P "__firstlineno__" 721 (.int 299 720), eS P "__init__" 729 (.ref 372), eS P "index" 740 (.ref 379), eS P "has" 748 (.ref 386), eS P "told" 755 (.ref 393), eS P "__static_attributes__" 757 (.ref 394)] 8, #[]⟩) (lf (tO #[]))))) (.node nO (.node (cO "is_ignored" "is_ignored" 300 34 3 3 84 true 85 .none (.ref 86) (.ref 87) (.ref 88) 308) (.node ⟨.type "frame", none, .plain, #[some (.ref 152), some (.ref 3), some (.ref 149), none, some (zS "joinedhand.buffer" 336), none, some (.ref 0)]⟩ (.node (tO #[zS "scene" 584, zS "at" 585, zS "step" 586, zS "tests" 587, zS "here" 588, zS "test" 589]) (lf (tO #[])) .nil) (lf ⟨.type "builtin_function_or_method", none, .fields #[.builtin "type.__prepare__", .type "type"], #[]⟩)) (.node (tO #[]) (lf (cO "tie_all" "tie_all" 672 257 4 3 340 true 341 .none (.ref 342) (.ref 343) (.ref 344) 685)) (lf (tO #[])))) (.node (tO #[zS "self" 353, zS "code" 354, zS "glyph" 355, zS "cluster" 356]) (.node nO (lf (fO (stF 37) rfl "hold_together" .none "joinedhand.matching" 518 312)) (lf ⟨.type "super", none, .fields #[.ref 438, .ref 438, .ref 438], #[]⟩)) (.node (cO "cover_tests" "cover_tests" 533 184 1 3 246 true 247 .none .none .none (.ref 248) 536) (lf (fT (stM 49 1) rfl "Coverage.index")) (lf (fO (stF 59) rfl "rules_at" .none "joinedhand.contexts" 774 504))))))) (.node (cO "<module>" "<module>" 182 1 0 0 11 false 12 .none .none .none .none 185) (.node (fO (stF 0) rfl "_wall" .none "__main__" 164 20) (.node nO (.node ⟨.type "builtin_function_or_method", none, .fields #[.builtin "object.__init_subclass__", .ref 65], #[]⟩ (.node (tO #[]) (.node (tO #[]) (lf (fT (stM 64 0) rfl "Places.__init__")) .nil) (lf (tO #[zS "self" 752]))) (.node ⟨.type "builtin_function_or_method", none, .fields #[.builtin "object.__init_subclass__", .ref 193], #[]⟩ (lf (fO (stF 42) rfl "way_of" .none "joinedhand.ligature" 629 324)) (lf (tO #[zS "self" 844, zS "form" 845, zS "is_chained" 846, zS "sets" 847, zS "coverage" 848, zS "classes" 849])))) (.node (tO #[]) (.node (cO "glyphs" "Buffer.glyphs" 420 102 1 3 162 true 163 .none .none .none (.ref 164) 423) (.node (tO #[]) (lf (cO "shrink" "shrink" 988 409 3 3 546 true 547 .none .none .none (.ref 548) 991)) .nil) (lf (fO (stM 54 0) rfl "Rule.__init__" .none "joinedhand.contexts" 774 420))) (.node (tO #[]) (lf (cO "apply_ligature" "apply_ligature" 694 286 3 3 352 true 353 .none (.ref 354) (.ref 355) (.ref 356) 705)) (lf nO)))) (.node (cO "Scene" "Scene" 247 20 0 0 51 false 52 .none .none .none .none 250) (.node nO (.node ⟨.type "dict", none, .dict #[eS P "__module__" 406 (zS "joinedhand.buffer" 336), eS P "__qualname__" 408 (zS "Buffer" 407), eS P "__firstlineno__" 410 (.int 94 409), eS P "__init__" 419 (.ref 161), eS P "glyphs" 425 (.ref 166), eS P "clusters" 431 (.ref 171), eS P "told" 437 (.ref 176), eS P "next_lig" 444 (.ref 183), eS P "next_split" 451 (.ref 190), eS P "__static_attributes__" 456 (.ref 191)] 10, #[]⟩ (.node (cO "input_at" "input_at" 569 205 3 3 272 true 273 .none (.ref 274) (.ref 275) (.ref 276) 578) (lf (fO (stF 65) rfl "match_rule" .none "joinedhand.nested" 919 532)) .nil) (lf (fT (stF 50) rfl "coverage_of"))) (.node nO (lf nO) (lf (fO (stM 55 2) rfl "Contexts.used_classes" .none "joinedhand.contexts" 774 468)))) (.node (cO "Info" "Info" 340 55 0 0 115 false 116 .none .none .none .none 343) (.node (fT (stM 16 4) rfl "Buffer.next_lig") (lf (tO #[zS "row" 621, zS "positions" 622, zS "first" 623, zS "at" 624, zS "other" 625])) (lf ⟨.type "dict", none, .dict #[eS P "__module__" 787 (zS "joinedhand.contexts" 774), eS P "__firstlineno__" 791 (.int 330 790), eS P "__init__" 802 (.ref 421), eS P "told" 809 (.ref 428), eS P "reach" 816 (.ref 435), eS P "__static_attributes__" 821 (.ref 436), eS P "__dict__" 823 (.ref 439), eS P "__weakref__" 825 (.ref 440), eS P "__doc__" 826 .none] 4, #[]⟩)) (.node (fO (stF 27) rfl "glyph_tests" .none "joinedhand.matching" 518 244) (lf (tO #[])) (lf (tO #[])))))) (.node (tO #[]) (.node ⟨.type "getset_descriptor", none, .fields #[zS "__weakref__" 240, .ref 43, .builtin "ExceptionGroup.__weakref__", .none], #[]⟩ (.node (tO #[]) (.node ⟨.type "dict", none, .dict #[eS P "__module__" 345 (zS "joinedhand.buffer" 336), eS P "__firstlineno__" 349 (.int 55 348), eS P "__init__" 359 (.ref 125), eS P "copied" 367 (.ref 132), eS P "told" 374 (.ref 139), eS P "__static_attributes__" 391 (.ref 140), eS P "__dict__" 393 (.ref 143), eS P "__weakref__" 395 (.ref 144), eS P "__doc__" 396 .none] 4, #[]⟩ (.node (fT (stF 31) rfl "found_at") (lf ⟨.type "super", none, .fields #[.ref 522, .ref 522, .ref 522], #[]⟩) .nil) (lf ⟨.type "getset_descriptor", none, .fields #[zS "__dict__" 758, .ref 396, .builtin "function.__dict__", .builtin "function.__dict__#set"], #[]⟩)) (.node (tO #[]) (lf (tO #[])) (lf (cO "told" "Contexts.told" 853 352 1 3 458 true 459 .none .none .none (.ref 460) 856)))) (.node (fT (stF 13) rfl "nested_scene") (.node nO (.node nO (lf (fO (stF 69) rfl "move" .none "joinedhand.nested" 919 556)) .nil) (lf (tO #[]))) (.node (cO "put" "put" 512 164 4 3 234 true 235 .none .none .none (.ref 236) 515) (lf ⟨.type "frame", none, .plain, #[some (.ref 364), some (.ref 3), some (.ref 361), none, some (zS "joinedhand.coverage" 708), none, some (.ref 0)]⟩) (lf (fO (stF 57) rfl "tests_of" .none "joinedhand.contexts" 774 492))))) (.node (cO "__init__" "Scene.__init__" 258 22 7 3 56 true 57 .none (.ref 58) (.ref 59) (.ref 60) 268) (.node (tO #[zS "scene" 314, zS "at" 315]) (.node (tO #[zS "self" 414, zS "infos" 415, zS "is_backward" 416]) (.node (fO (stF 33) rfl "last_at" .none "joinedhand.matching" 518 284) (lf (tO #[])) .nil) (lf (cO "Rule" "Rule" 782 330 0 0 411 false 412 .none .none .none .none 785))) (.node (fO (stF 20) rfl "hang" .none "joinedhand.buffer" 336 220) (lf (fT (stF 46) rfl "join")) (lf (tO #[zS "classes" 876, zS "coverage" 877, zS "form" 878, zS "is_chained" 879, zS "sets" 880])))) (.node (fO (stM 15 0) rfl "Info.__init__" .none "joinedhand.buffer" 336 124) (.node (cO "next_split" "Buffer.next_split" 445 115 1 3 184 true 185 .none (.ref 186) (.ref 187) (.ref 188) 449) (lf (tO #[])) (lf ⟨.type "dict", none, .dict #[eS P "__module__" 836 (zS "joinedhand.contexts" 774), eS P "__qualname__" 838 (zS "Contexts" 837), eS P "__firstlineno__" 840 (.int 343 839), eS P "__init__" 852 (.ref 457), eS P "told" 858 (.ref 462), eS P "used_classes" 865 (.ref 469), eS P "rules" 875 (.ref 476), eS P "__static_attributes__" 881 (.ref 477)] 8, #[]⟩)) (.node (tO #[zS "test" 542, zS "glyph" 543]) (lf nO) (lf (tO #[]))))))))) (.node ⟨.none, none, .dict #[] 0, #[]⟩ (.node ⟨.type "module", (some 0), .plain, #[]⟩ (.node nO (.node nO (.node (tO #[]) (.node ⟨.type "dict", none, .dict #[eS P "__module__" 252 (zS "joinedhand.flags" 194), eS P "__firstlineno__" 256 (.int 20 255), eS P "__init__" 270 (.ref 62), eS P "__static_attributes__" 278 (.ref 63), eS P "__dict__" 280 (.ref 66), eS P "__weakref__" 282 (.ref 67), eS P "__doc__" 283 .none] 4, #[]⟩ (.node (tO #[zS "self" 363, zS "found" 364]) (.node (cO "fits" "fits" 539 186 2 3 251 true 252 .none (.ref 253) (.ref 254) (.ref 255) 544) (lf ⟨.type "frame", none, .plain, #[some (.ref 511), some (.ref 3), some (.ref 508), none, some (zS "joinedhand.nested" 919), none, some (.ref 0)]⟩) .nil) (lf (fT (stM 49 2) rfl "Coverage.has"))) (.node ⟨.type "dict", none, .dict #[eS P "__module__" 406 (zS "joinedhand.buffer" 336), eS P "__firstlineno__" 410 (.int 94 409), eS P "__init__" 419 (.ref 161), eS P "glyphs" 425 (.ref 166), eS P "clusters" 431 (.ref 171), eS P "told" 437 (.ref 176), eS P "next_lig" 444 (.ref 183), eS P "next_split" 451 (.ref 190), eS P "__static_attributes__" 456 (.ref 191), eS P "__dict__" 458 (.ref 194), eS P "__weakref__" 460 (.ref 195), eS P "__doc__" 461 .none] 4, #[]⟩ (lf (fO (stF 41) rfl "part_count" .none "joinedhand.ligature" 629 319)) (lf (cO "Contexts" "Contexts" 831 343 0 0 446 false 447 .none .none .none .none 834)))) (.node (cO "passes" "passes" 311 44 2 3 91 true 92 .none (.ref 93) (.ref 94) (.ref 95) 316) (.node (cO "__init__" "Buffer.__init__" 411 96 3 3 155 true 156 .none (.ref 157) (.ref 158) (.ref 159) 417) (.node (tO #[zS "scene" 596, zS "at" 597, zS "tests" 598]) (lf (cO "grow" "grow" 982 406 3 3 541 true 542 .none .none .none (.ref 543) 985)) .nil) (lf nO)) (.node (tO #[zS "row" 498, zS "at" 499, zS "cluster" 500, zS "before" 501, zS "spot" 502]) (lf (tO #[])) (lf ⟨.type "getset_descriptor", none, .fields #[zS "__dict__" 882, .ref 479, .builtin "function.__dict__", .builtin "function.__dict__#set"], #[]⟩)))) (.node (tO #[]) (.node (tO #[]) (.node ⟨.type "getset_descriptor", none, .fields #[zS "__weakref__" 394, .ref 142, .builtin "ExceptionGroup.__weakref__", .none], #[]⟩ (.node (tO #[]) (lf nO) .nil) (lf ⟨.type "builtin_function_or_method", none, .fields #[.builtin "object.__init_subclass__", .ref 396], #[]⟩)) (.node (tO #[]) (lf (tO #[])) (lf nO))) (.node (tO #[]) (.node (fO (stM 16 3) rfl "Buffer.told" .none "joinedhand.buffer" 336 175) (lf (fT (stF 36) rfl "is_piece")) (lf (tO #[]))) (.node (tO #[zS "zwj" 523, zS "zwnj" 524, zS "hidden" 525]) (lf (tO #[zS "self" 725, zS "glyphs" 726])) (lf (tO #[zS "table" 904, zS "rule" 905, zS "word" 906, zS "back" 907, zS "inside" 908, zS "ahead" 909])))))) (.node ⟨.type "dict", none, .dict #[eS P "__module__" 211 (zS "joinedhand.flags" 194), eS P "__qualname__" 213 (zS "Lookup" 212), eS P "__firstlineno__" 215 (.int 9 214), eS P "__init__" 226 (.ref 35), eS P "told" 232 (.ref 40), eS P "__static_attributes__" 237 (.ref 41)] 6, #[]⟩ (.node (fO (stM 6 1) rfl "Lookup.told" .none "joinedhand.flags" 194 39) (.node (tO #[zS "flag" 289]) (.node (tO #[]) (.node (fO (stF 30) rfl "is_borne" .none "joinedhand.matching" 518 263) (lf (tO #[zS "end" 948, zS "row" 949])) .nil) (lf (cO "told" "Coverage.told" 749 320 1 3 387 true 388 .none (.ref 389) (.ref 390) (.ref 391) 753))) (.node (tO #[zS "info" 467, zS "cluster" 468]) (lf (tO #[zS "info" 651, zS "lig_id" 652, zS "ahead" 653, zS "count" 654, zS "part" 655])) (lf (cO "__init__" "Contexts.__init__" 841 345 6 3 451 true 452 .none (.ref 453) (.ref 454) (.ref 455) 850)))) (.node (fO (stF 12) rfl "takes" .none "joinedhand.flags" 194 103) (.node nO (.node (tO #[]) (lf nO) .nil) (lf (tO #[zS "self" 806]))) (.node (cO "drop_cluster" "drop_cluster" 506 151 2 3 229 true 230 .none .none .none (.ref 231) 509) (lf ⟨.type "builtin_function_or_method", none, .fields #[.builtin "type.__prepare__", .type "type"], #[]⟩) (lf (fO (stF 56) rfl "told_row" .none "joinedhand.contexts" 774 487))))) (.node (tO #[]) (.node (fT (stF 10) rfl "is_ignored") (.node (cO "Buffer" "Buffer" 401 94 0 0 150 false 151 .none .none .none .none 404) (.node nO (lf (tO #[zS "scene" 977, zS "number" 978])) .nil) (lf (tO #[]))) (.node (fO (stF 19) rfl "merge" .none "joinedhand.buffer" 336 215) (lf (fT (stF 45) rfl "tie_all")) (lf (tO #[zS "self" 869, zS "found" 870, zS "key" 871, zS "rule" 872])))) (.node nO (.node (tO #[]) (lf (cO "hold_together" "hold_together" 618 228 2 3 307 true 308 .none (.ref 309) (.ref 310) (.ref 311) 626)) (lf ⟨.type "getset_descriptor", none, .fields #[zS "__weakref__" 824, .ref 438, .builtin "ExceptionGroup.__weakref__", .none], #[]⟩)) (.node (fT (stF 28) rfl "cover_tests") (lf (tO #[])) (lf (cO "rules_at" "rules_at" 913 377 2 3 501 true 502 .none .none .none (.ref 503) 916))))))) (.node ⟨.none, none, .fields #[.int 1 0, .int 0 0, .ref 20, .int 9 0, .int 0 0, .ref 27, .int 20 0, .int 0 0, .ref 53, .int 30 0, .int 0 0, .ref 75, .int 32 0, .int 0 0, .ref 82, .int 34 0, .int 0 0, .ref 89, .int 44 0, .int 0 0, .ref 96, .int 46 0, .int 0 0, .ref 103, .int 48 0, .int 0 0, .ref 110, .int 55 0, .int 0 0, .ref 117, .int 94 0, .int 0 0, .ref 152, .int 118 0, .int 0 0, .ref 203, .int 122 0, .int 0 0, .ref 210, .int 130 0, .int 0 0, .ref 215, .int 137 0, .int 0 0, .ref 220, .int 145 0, .int 0 0, .ref 227, .int 151 0, .int 0 0, .ref 232, .int 164 0, .int 0 0, .ref 237, .int 182 0, .int 0 0, .ref 244, .int 184 0, .int 0 0, .ref 249, .int 186 0, .int 0 0, .ref 256, .int 192 0, .int 0 0, .ref 263, .int 194 0, .int 0 0, .ref 270, .int 205 0, .int 0 0, .ref 277, .int 215 0, .int 0 0, .ref 284, .int 222 0, .int 0 0, .ref 291, .int 224 0, .int 0 0, .ref 298, .int 226 0, .int 0 0, .ref 305, .int 228 0, .int 0 0, .ref 312, .int 241 0, .int 0 0, .ref 319, .int 243 0, .int 0 0, .ref 324, .int 247 0, .int 0 0, .ref 331, .int 252 0, .int 0 0, .ref 338, .int 257 0, .int 0 0, .ref 345, .int 269 0, .int 0 0, .ref 350, .int 286 0, .int 0 0, .ref 357, .int 299 0, .int 0 0, .ref 364, .int 322 0, .int 0 0, .ref 406, .int 330 0, .int 0 0, .ref 413, .int 343 0, .int 0 0, .ref 448, .int 367 0, .int 0 0, .ref 487, .int 369 0, .int 0 0, .ref 492, .int 373 0, .int 0 0, .ref 499, .int 377 0, .int 0 0, .ref 504, .int 389 0, .int 0 0, .ref 511, .int 394 0, .int 0 0, .ref 532, .int 404 0, .int 0 0, .ref 539, .int 406 0, .int 0 0, .ref 544, .int 409 0, .int 0 0, .ref 549, .int 411 0, .int 0 0, .ref 556], #[]⟩ (.node (cO "_wall" "_wall" 187 1 1 3 15 true 16 .none (.ref 17) (.ref 18) (.ref 19) 191) (.node (tO #[]) (.node ⟨.type "super", none, .fields #[.ref 65, .ref 65, .ref 65], #[]⟩ (.node (fO (stM 15 1) rfl "Info.copied" .none "joinedhand.buffer" 336 131) (.node (tO #[zS "scene" 550, zS "info" 551]) (lf (tO #[])) .nil) (lf nO)) (.node ⟨.type "super", none, .fields #[.ref 193, .ref 193, .ref 193], #[]⟩ (lf (cO "way_of" "way_of" 642 243 2 3 321 true 322 .none .none .none (.ref 323) 645)) (lf nO))) (.node (tO #[zS "scene" 322, zS "at" 323]) (.node (fT (stM 16 1) rfl "Buffer.glyphs") (.node (fO (stF 34) rfl "ahead_at" .none "joinedhand.matching" 518 291) (lf (fT (stF 68) rfl "shrink")) .nil) (lf (cO "__init__" "Rule.__init__" 792 332 5 3 415 true 416 .none (.ref 417) (.ref 418) (.ref 419) 800))) (.node (fO (stF 21) rfl "hand_back" .none "joinedhand.buffer" 336 227) (lf (fT (stF 47) rfl "apply_ligature")) (lf (tO #[]))))) (.node ⟨.none, none, .fields #[.int 22 0, .int 4 0, .ref 61], #[]⟩ (.node (tO #[]) (.node ⟨.type "builtin_function_or_method", none, .fields #[.builtin "type.__prepare__", .type "type"], #[]⟩ (.node (fT (stF 32) rfl "input_at") (lf (cO "match_rule" "match_rule" 958 394 3 3 527 true 528 .none (.ref 529) (.ref 530) (.ref 531) 971)) .nil) (lf (tO #[]))) (.node (tO #[]) (lf (tO #[])) (lf (cO "used_classes" "Contexts.used_classes" 859 358 1 3 463 true 464 .none (.ref 465) (.ref 466) (.ref 467) 863)))) (.node ⟨.none, none, .fields #[.int 57 0, .int 4 0, .ref 124, .int 75 0, .int 4 0, .ref 131, .int 92 0, .int 4 0, .ref 138], #[]⟩ (.node (tO #[]) (lf nO) (lf (tO #[zS "actions" 817, zS "ahead" 818, zS "back" 819, zS "inside" 820]))) (.node (cO "glyph_tests" "glyph_tests" 527 182 1 3 241 true 242 .none .none .none (.ref 243) 530) (lf (fO (stM 49 0) rfl "Coverage.__init__" .none "joinedhand.coverage" 708 371)) (lf (fO (stF 58) rfl "rule_tests" .none "joinedhand.contexts" 774 499)))))) (.node ⟨.type "frame", none, .plain, #[some (.ref 27), some (.ref 3), some (.ref 24), none, some (zS "joinedhand.flags" 194), none, some (.ref 0)]⟩ (.node ⟨.type "getset_descriptor", none, .fields #[zS "__dict__" 238, .ref 43, .builtin "function.__dict__", .builtin "function.__dict__#set"], #[]⟩ (.node (fO (stF 8) rfl "attach_wanted" .none "joinedhand.flags" 194 75) (.node (tO #[zS "bond" 375, zS "cluster" 376, zS "code" 377, zS "glyph" 378, zS "is_unsafe" 379, zS "kind" 380, zS "lig_count" 381, zS "lig_id" 382, zS "lig_part" 383, zS "mask" 384, zS "parent" 385, zS "split_id" 386, zS "x_advance" 387, zS "x_offset" 388, zS "y_advance" 389, zS "y_offset" 390]) (.node (tO #[]) (lf ⟨.type "getset_descriptor", none, .fields #[zS "__weakref__" 953, .ref 522, .builtin "ExceptionGroup.__weakref__", .none], #[]⟩) .nil) (lf ⟨.type "type", none, .cls { name := (.ofString "Coverage"), bases := [.type "object"], mro := [.ref 396, .type "object"], ns := 395, qualname := (.ofString "Coverage") }, #[none, none, some (zS "Coverage" 710), some (zS "Coverage" 718), some (.builtin "object.__new__"), some (.bool true)]⟩)) (.node (fO (stF 17) rfl "set_cluster" .none "joinedhand.buffer" 336 203) (lf (fO (stF 43) rfl "tie" .none "joinedhand.ligature" 629 331)) (lf (fT (stM 55 1) rfl "Contexts.told")))) (.node (tO #[]) (.node (tO #[]) (.node (tO #[]) (lf (cO "move" "move" 994 411 3 3 551 true 552 .none (.ref 553) (.ref 554) (.ref 555) 1000)) .nil) (lf (fO (stM 54 1) rfl "Rule.told" .none "joinedhand.contexts" 774 427))) (.node (fT (stF 23) rfl "put") (lf (cO "Coverage" "Coverage" 712 299 0 0 362 false 363 .none .none .none .none 715)) (lf (cO "tests_of" "tests_of" 895 369 3 3 489 true 490 .none .none .none (.ref 491) 898))))) (.node (fT (stM 7 0) rfl "Scene.__init__") (.node nO (.node nO (.node (cO "last_at" "last_at" 581 215 4 3 279 true 280 .none (.ref 281) (.ref 282) (.ref 283) 590) (lf (fO (stF 66) rfl "inner_scene" .none "joinedhand.nested" 919 539)) .nil) (lf ⟨.none, none, .fields #[.int 332 0, .int 4 0, .ref 420, .int 338 0, .int 4 0, .ref 427, .int 341 0, .int 4 0, .ref 434], #[]⟩)) (.node (cO "hang" "hang" 489 137 3 3 217 true 218 .none .none .none (.ref 219) 492) (lf nO) (lf (fO (stM 55 3) rfl "Contexts.rules" .none "joinedhand.contexts" 774 475)))) (.node (cO "__init__" "Info.__init__" 350 57 4 3 119 true 120 .none (.ref 121) (.ref 122) (.ref 123) 357) (.node (fT (stM 16 5) rfl "Buffer.next_split") (lf (tO #[zS "info" 638])) (lf ⟨.type "builtin_function_or_method", none, .fields #[.builtin "type.__prepare__", .type "type"], #[]⟩)) (.node nO (lf (tO #[])) (lf ⟨.type "dict", none, .dict #[eS P "__module__" 934 (zS "joinedhand.nested" 919), eS P "__qualname__" 936 (zS "Places" 935), eS P "__firstlineno__" 938 (.int 389 937), eS P "__init__" 947 (.ref 519), eS P "__static_attributes__" 950 (.ref 520)] 5, #[]⟩))))))) (.node ⟨.type "dict", none, .dict #[] 0, #[]⟩ (.node ⟨.type "frame", none, .plain, #[some (.ref 9), some (.ref 3), some (.ref 3), none, some (zS "__main__" 164), none, some (.ref 0)]⟩ (.node (tO #[]) (.node (cO "__init__" "Lookup.__init__" 216 11 5 3 29 true 30 .none (.ref 31) (.ref 32) (.ref 33) 224) (.node ⟨.type "getset_descriptor", none, .fields #[zS "__dict__" 279, .ref 65, .builtin "function.__dict__", .builtin "function.__dict__#set"], #[]⟩ (.node (fT (stM 15 1) rfl "Info.copied") (.node (tO #[]) (lf nO) .nil) (lf (fO (stM 49 2) rfl "Coverage.has" .none "joinedhand.coverage" 708 385))) (.node ⟨.type "getset_descriptor", none, .fields #[zS "__dict__" 457, .ref 193, .builtin "function.__dict__", .builtin "function.__dict__#set"], #[]⟩ (lf nO) (lf (tO #[.none, .none])))) (.node (tO #[]) (.node (tO #[]) (.node (fT (stF 34) rfl "ahead_at") (lf (tO #[])) .nil) (lf (tO #[]))) (.node (fT (stF 21) rfl "hand_back") (lf (tO #[zS "scene" 697, zS "table" 698, zS "at" 699, zS "row" 700, zS "first" 701, zS "rest" 702, zS "ligature" 703, zS "places" 704])) (lf ⟨.type "super", none, .fields #[.ref 479, .ref 479, .ref 479], #[]⟩)))) (.node ⟨.type "dict", none, .dict #[eS P "__module__" 252 (zS "joinedhand.flags" 194), eS P "__qualname__" 254 (zS "Scene" 253), eS P "__firstlineno__" 256 (.int 20 255), eS P "__init__" 270 (.ref 62), eS P "__static_attributes__" 278 (.ref 63)] 5, #[]⟩ (.node (cO "class_bit" "class_bit" 293 32 1 3 77 true 78 .none (.ref 79) (.ref 80) (.ref 81) 297) (.node ⟨.type "builtin_function_or_method", none, .fields #[.builtin "object.__init_subclass__", .ref 142], #[]⟩ (.node (tO #[zS "scene" 572, zS "at" 573, zS "tests" 574, zS "found" 575, zS "test" 576, zS "here" 577]) (lf (tO #[])) .nil) (lf nO)) (.node (cO "widened" "widened" 472 122 3 3 205 true 206 .none (.ref 207) (.ref 208) (.ref 209) 480) (lf (cO "tie_behind" "tie_behind" 659 252 6 3 333 true 334 .none (.ref 335) (.ref 336) (.ref 337) 669)) (lf (tO #[])))) (.node ⟨.type "dict", none, .dict #[eS P "__module__" 345 (zS "joinedhand.buffer" 336), eS P "__qualname__" 347 (zS "Info" 346), eS P "__firstlineno__" 349 (.int 55 348), eS P "__init__" 359 (.ref 125), eS P "copied" 367 (.ref 132), eS P "told" 374 (.ref 139), eS P "__static_attributes__" 391 (.ref 140)] 7, #[]⟩ (.node nO (lf (fO (stF 36) rfl "is_piece" .none "joinedhand.matching" 518 305)) (lf (cO "reach" "Rule.reach" 810 341 1 3 429 true 430 .none (.ref 431) (.ref 432) (.ref 433) 814))) (.node nO (lf (fT (stM 49 0) rfl "Coverage.__init__")) (lf (fT (stF 58) rfl "rule_tests")))))) (.node ⟨.none, none, .fields #[.int 11 0, .int 4 0, .ref 34, .int 17 0, .int 4 0, .ref 39], #[]⟩ (.node ⟨.type "dict", none, .dict #[eS P "__module__" 211 (zS "joinedhand.flags" 194), eS P "__firstlineno__" 215 (.int 9 214), eS P "__init__" 226 (.ref 35), eS P "told" 232 (.ref 40), eS P "__static_attributes__" 237 (.ref 41), eS P "__dict__" 239 (.ref 44), eS P "__weakref__" 241 (.ref 45), eS P "__doc__" 242 .none] 4, #[]⟩ (.node (fT (stF 8) rfl "attach_wanted") (.node (cO "told" "Info.told" 368 92 1 3 133 true 134 .none (.ref 135) (.ref 136) (.ref 137) 372) (.node nO (lf ⟨.type "type", none, .cls { name := (.ofString "Places"), bases := [.type "object"], mro := [.ref 522, .type "object"], ns := 521, qualname := (.ofString "Places") }, #[none, none, some (zS "Places" 927), some (zS "Places" 935), some (.builtin "object.__new__"), some (.bool true)]⟩) .nil) (lf (tO #[zS "glyphs" 756]))) (.node (fT (stF 17) rfl "set_cluster") (lf (fT (stF 43) rfl "tie")) (lf (tO #[])))) (.node nO (.node (cO "clusters" "Buffer.clusters" 426 105 1 3 167 true 168 .none .none .none (.ref 169) 429) (.node (cO "back_at" "back_at" 602 224 3 3 293 true 294 .none (.ref 295) (.ref 296) (.ref 297) 608) (lf (tO #[])) .nil) (lf (fT (stM 54 1) rfl "Rule.told"))) (.node (tO #[]) (lf (tO #[])) (lf nO)))) (.node (tO #[zS "self" 261, zS "buffer" 262, zS "gdef" 263, zS "lookups" 264, zS "lookup" 265, zS "mask" 266, zS "depth" 267]) (.node (fO (stF 10) rfl "is_ignored" .none "joinedhand.flags" 194 89) (.node (tO #[.bool false]) (.node (tO #[]) (lf (fT (stF 66) rfl "inner_scene")) .nil) (lf ⟨.type "dict", none, .dict #[eS P "__module__" 787 (zS "joinedhand.contexts" 774), eS P "__qualname__" 789 (zS "Rule" 788), eS P "__firstlineno__" 791 (.int 330 790), eS P "__init__" 802 (.ref 421), eS P "told" 809 (.ref 428), eS P "reach" 816 (.ref 435), eS P "__static_attributes__" 821 (.ref 436)] 7, #[]⟩)) (.node nO (lf (fO (stF 45) rfl "tie_all" .none "joinedhand.ligature" 629 345)) (lf (fT (stM 55 3) rfl "Contexts.rules")))) (.node (tO #[]) (.node (tO #[zS "self" 448]) (lf (tO #[])) (lf ⟨.type "builtin_function_or_method", none, .fields #[.builtin "object.__init_subclass__", .ref 438], #[]⟩)) (.node (fO (stF 28) rfl "cover_tests" .none "joinedhand.matching" 518 249) (lf (cO "index" "Coverage.index" 730 304 2 3 373 true 374 .none (.ref 375) (.ref 376) (.ref 377) 738)) (lf (tO #[]))))))) (.node ⟨.type "frame", none, .plain, #[some (.ref 13), some (.ref 3), some (.ref 3), none, some (zS "__main__" 164), none, some (.ref 0)]⟩ (.node (tO #[]) (.node (fT (stM 6 1) rfl "Lookup.told") (.node (tO #[]) (.node nO (.node (fT (stF 30) rfl "is_borne") (lf (cO "__init__" "Places.__init__" 939 391 3 3 513 true 514 .none (.ref 515) (.ref 516) (.ref 517) 945)) .nil) (lf (tO #[]))) (.node (tO #[]) (lf (tO #[])) (lf (tO #[])))) (.node (fT (stF 12) rfl "takes") (.node (fO (stM 16 1) rfl "Buffer.glyphs" .none "joinedhand.buffer" 336 165) (.node nO (lf (fO (stF 68) rfl "shrink" .none "joinedhand.nested" 919 549)) .nil) (lf (tO #[]))) (.node nO (lf (fO (stF 47) rfl "apply_ligature" .none "joinedhand.ligature" 629 357)) (lf (fT (stF 56) rfl "told_row"))))) (.node ⟨.type "frame", none, .plain, #[some (.ref 53), some (.ref 3), some (.ref 50), none, some (zS "joinedhand.flags" 194), none, some (.ref 0)]⟩ (.node (tO #[zS "gdef" 303, zS "lookup" 304, zS "glyph" 305, zS "number" 306, zS "wanted" 307]) (.node (tO #[]) (.node (fO (stF 32) rfl "input_at" .none "joinedhand.matching" 518 277) (lf (tO #[])) .nil) (lf (cO "coverage_of" "coverage_of" 765 322 1 3 401 true 402 .none (.ref 403) (.ref 404) (.ref 405) 771))) (.node (fT (stF 19) rfl "merge") (lf (tO #[zS "row" 675, zS "places" 676, zS "way" 677, zS "lig_id" 678, zS "last" 679, zS "ahead" 680, zS "count" 681, zS "old_id" 682, zS "spot" 683, zS "passed" 684])) (lf (tO #[])))) (.node ⟨.type "frame", none, .plain, #[some (.ref 117), some (.ref 3), some (.ref 114), none, some (zS "joinedhand.buffer" 336), none, some (.ref 0)]⟩ (.node (cO "next_lig" "Buffer.next_lig" 438 111 1 3 177 true 178 .none (.ref 179) (.ref 180) (.ref 181) 442) (lf (tO #[])) (lf ⟨.type "type", none, .cls { name := (.ofString "Rule"), bases := [.type "object"], mro := [.ref 438, .type "object"], ns := 437, qualname := (.ofString "Rule") }, #[none, none, some (zS "Rule" 780), some (zS "Rule" 788), some (.builtin "object.__new__"), some (.bool true)]⟩)) (.node (tO #[]) (lf nO) (lf nO))))) (.node nO (.node ⟨.type "super", none, .fields #[.ref 43, .ref 43, .ref 43], #[]⟩ (.node nO (.node ⟨.type "type", none, .cls { name := (.ofString "Info"), bases := [.type "object"], mro := [.ref 142, .type "object"], ns := 141, qualname := (.ofString "Info") }, #[none, none, some (zS "Info" 338), some (zS "Info" 346), some (.builtin "object.__new__"), some (.bool true)]⟩ (.node (cO "found_at" "found_at" 555 194 6 3 265 true 266 .none (.ref 267) (.ref 268) (.ref 269) 566) (lf ⟨.type "builtin_function_or_method", none, .fields #[.builtin "object.__init_subclass__", .ref 522], #[]⟩) .nil) (lf ⟨.type "getset_descriptor", none, .fields #[zS "__weakref__" 760, .ref 396, .builtin "ExceptionGroup.__weakref__", .none], #[]⟩)) (.node nO (lf nO) (lf (fO (stM 55 1) rfl "Contexts.told" .none "joinedhand.contexts" 774 461)))) (.node (cO "nested_scene" "nested_scene" 327 48 2 3 105 true 106 .none (.ref 107) (.ref 108) (.ref 109) 333) (.node (fT (stM 16 3) rfl "Buffer.told") (lf (tO #[zS "info" 614])) (lf nO)) (.node (fO (stF 23) rfl "put" .none "joinedhand.buffer" 336 237) (lf (tO #[])) (lf (tO #[]))))) (.node (fO (stM 7 0) rfl "Scene.__init__" (.ref 55) "joinedhand.flags" 194 61) (.node (tO #[]) (.node (tO #[]) (.node (tO #[]) (lf nO) .nil) (lf ⟨.type "frame", none, .plain, #[some (.ref 413), some (.ref 3), some (.ref 410), none, some (zS "joinedhand.contexts" 774), none, some (.ref 0)]⟩)) (.node (tO #[]) (lf (cO "join" "join" 688 269 3 3 347 true 348 .none .none .none (.ref 349) 691)) (lf ⟨.type "dict", none, .dict #[eS P "__module__" 836 (zS "joinedhand.contexts" 774), eS P "__firstlineno__" 840 (.int 343 839), eS P "__init__" 852 (.ref 457), eS P "told" 858 (.ref 462), eS P "used_classes" 865 (.ref 469), eS P "rules" 875 (.ref 476), eS P "__static_attributes__" 881 (.ref 477), eS P "__dict__" 883 (.ref 480), eS P "__weakref__" 885 (.ref 481), eS P "__doc__" 886 .none] 4, #[]⟩))) (.node (tO #[]) (.node (fO (stM 16 5) rfl "Buffer.next_split" .none "joinedhand.buffer" 336 189) (lf (fT (stF 41) rfl "part_count")) (lf (tO #[]))) (.node (tO #[]) (lf (tO #[zS "self" 744, zS "glyph" 745])) (lf ⟨.none, none, .fields #[.int 391 0, .int 4 0, .ref 518], #[]⟩)))))))))
noncomputable def hd.S2 (w : World) (os : OsState) : SharedT := { tree := hd.tr2 w.params, n := 558, life := {}, gens := #[], drawn := {}, toks := 1003, os := os }
abbrev hd.q2 : Pos := ⟨411, 0, 419, 38⟩
abbrev hd.b1 : List Stmt := (hd.bE.drop 40).take 30
theorem hd.seg1 (w : World) (os : OsState) : Fast.tw10110043849684766642 Fast.tw14364793385576792824 PR w 11 (some (Value.ref 6)) 1 1759 (hd.S1 w os) (piecesOf hd.b1 hd.env hd.cE hd.q1 [topFrame hd.p0]) = some (.next, hd.S2 w os, hd.cE, hd.q2) := by kernel_rfl
theorem hd.sg1 (w : World) (os : OsState) : segRunT treeTable PR w 11 (some (.ref 6)) 1 1759 (hd.S1 w os) (piecesOf hd.b1 hd.env hd.cE hd.q1 [topFrame hd.p0]) = some (.next, hd.S2 w os, hd.cE, hd.q2) := by
  rw [Fast.te10110043849684766642, Fast.te14364793385576792824]
  exact hd.seg1 w os
set_option maxHeartbeats 4000000 in
noncomputable def hd.tr3 (P : Params) : BT := (.node (boot_o_0 P) (.node ⟨.type "dict", none, .dict #[eS P "builtins" 162 (.ref 4), eS P "__main__" 163 (.ref 5)] 2, #[]⟩ (.node ⟨.type "dict", none, .dict #[eS P "__name__" 165 (zS "law_pf0148_01" 1336), eS P "__doc__" 166 .none, eS P "__package__" 167 .none, eS P "__loader__" 168 (.builtin "__main__.__loader__#opaque"), eS P "__spec__" 169 .none, eS P "__annotations__" 170 (.ref 6), eS P "__builtins__" 171 (.ref 4), eS P "__file__" 173 (zS "/claim/cut.py" 172), eS P "__cached__" 174 .none, eS P "_wall" 193 (.ref 21), eS P "IGNORE_BASES" 197 (.int 2 196), eS P "IGNORE_LIGATURES" 199 (.int 4 198), eS P "IGNORE_MARKS" 201 (.int 8 200), eS P "USE_SET" 203 (.int 16 202), eS P "Lookup" 244 (.ref 43), eS P "Scene" 285 (.ref 65), eS P "attach_wanted" 292 (.ref 76), eS P "class_bit" 299 (.ref 83), eS P "is_ignored" 310 (.ref 90), eS P "passes" 318 (.ref 97), eS P "takes" 326 (.ref 104), eS P "nested_scene" 335 (.ref 111), eS P "Info" 398 (.ref 142), eS P "Buffer" 463 (.ref 193), eS P "set_cluster" 471 (.ref 204), eS P "widened" 482 (.ref 211), eS P "merge" 488 (.ref 216), eS P "hang" 494 (.ref 221), eS P "hand_back" 505 (.ref 228), eS P "drop_cluster" 511 (.ref 233), eS P "put" 517 (.ref 238), eS P "KINDS_IN_INPUT" 522 (.ref 239), eS P "KINDS_AROUND" 526 (.ref 240), eS P "glyph_tests" 532 (.ref 245), eS P "cover_tests" 538 (.ref 250), eS P "fits" 546 (.ref 257), eS P "is_borne" 554 (.ref 264), eS P "found_at" 568 (.ref 271), eS P "input_at" 580 (.ref 278), eS P "last_at" 592 (.ref 285), eS P "ahead_at" 601 (.ref 292), eS P "back_at" 610 (.ref 299), eS P "is_piece" 617 (.ref 306), eS P "hold_together" 628 (.ref 313), eS P "BASE_ligature" 632 (.int 1 631), eS P "MARK" 634 (.int 3 633), eS P "part_count" 641 (.ref 320), eS P "way_of" 647 (.ref 325), eS P "tie" 658 (.ref 332), eS P "tie_behind" 671 (.ref 339), eS P "tie_all" 687 (.ref 346), eS P "join" 693 (.ref 351), eS P "apply_ligature" 707 (.ref 358), eS P "Coverage" 764 (.ref 396), eS P "coverage_of" 773 (.ref 407), eS P "BY_GLYPHS" 777 (.int 1 776), eS P "BY_CLASSES" 779 (.int 2 778), eS P "Rule" 828 (.ref 438), eS P "Contexts" 888 (.ref 479), eS P "told_row" 894 (.ref 488), eS P "tests_of" 900 (.ref 493), eS P "rule_tests" 912 (.ref 500), eS P "rules_at" 918 (.ref 505), eS P "MOST_DEPTH" 922 (.int 6 921), eS P "MOST_PLACES" 924 (.int 64 923), eS P "MOST_ACTIONS" 926 (.int 256 925), eS P "Places" 957 (.ref 522), eS P "match_rule" 973 (.ref 533), eS P "inner_scene" 981 (.ref 540), eS P "grow" 987 (.ref 545), eS P "shrink" 993 (.ref 550), eS P "move" 1002 (.ref 557), eS P "do_action" 1017 (.ref 564), eS P "do_actions" 1028 (.ref 571), eS P "apply_context" 1040 (.ref 578), eS P "apply_reverse" 1054 (.ref 585), eS P "Single" 1091 (.ref 607), eS P "apply_single" 1101 (.ref 618), eS P "apply_multiple" 1116 (.ref 625), eS P "choice_of" 1125 (.ref 632), eS P "apply_alternate" 1137 (.ref 639), eS P "apply_table" 1149 (.ref 646), eS P "substitute_at" 1159 (.ref 653), eS P "run_forward" 1169 (.ref 660), eS P "run_backward" 1178 (.ref 667), eS P "run_substitution" 1190 (.ref 674), eS P "ClassDef" 1252 (.ref 717), eS P "NO_CLASS" 1256 (.int 0 1255), eS P "BASE_gdef" 1258 (.int 1 1257), eS P "COMPONENT" 1260 (.int 4 1259), eS P "Gdef" 1329 (.ref 765), eS P "no_gdef" 1335 (.ref 776), eS P "_law_draw" 1346 (.ref 783), eS P "_law_walk" 1356 (.ref 790), eS P "law" 1362 (.ref 795)] 95, #[]⟩ (.node (tO #[]) (.node (tO #[]) (.node (tO #[zS "self" 219, zS "kind" 220, zS "flag" 221, zS "mark_set" 222, zS "tables" 223]) (.node (tO #[zS "buffer" 271, zS "depth" 272, zS "gdef" 273, zS "lookup" 274, zS "lookups" 275, zS "mask" 276, zS "steps" 277]) (.node nO (.node (fT (stF 29) rfl "fits") (lf (cO "Places" "Places" 929 389 0 0 509 false 510 .none .none .none .none 932)) (lf ⟨.type "getset_descriptor", none, .fields #[zS "__weakref__" 1325, .ref 765, .builtin "ExceptionGroup.__weakref__", .none], #[]⟩)) (.node (tO #[]) (lf (fO (stF 80) rfl "apply_alternate" .none "joinedhand.single" 1055 638)) .nil)) (.node (tO #[zS "is_backward" 452, zS "last_lig" 453, zS "last_split" 454, zS "row" 455]) (.node (cO "part_count" "part_count" 635 241 1 3 314 true 315 .none (.ref 316) (.ref 317) (.ref 318) 639) (lf (tO #[])) .nil) (.node ⟨.none, none, .fields #[.int 345 0, .int 4 0, .ref 456, .int 352 0, .int 4 0, .ref 461, .int 358 0, .int 4 0, .ref 468, .int 361 0, .int 4 0, .ref 475], #[]⟩ (lf (tO #[])) .nil))) (.node (fT (stF 11) rfl "passes") (.node (fT (stM 16 0) rfl "Buffer.__init__") (.node nO (lf (fT (stF 67) rfl "grow")) .nil) (.node (tO #[]) (lf (tO #[])) .nil)) (.node nO (.node (fO (stF 46) rfl "join" .none "joinedhand.ligature" 629 350) (lf ⟨.type "type", none, .cls { name := (.ofString "Single"), bases := [.type "object"], mro := [.ref 607, .type "object"], ns := 606, qualname := (.ofString "Single") }, #[none, none, some (zS "Single" 1057), some (zS "Single" 1065), some (.builtin "object.__new__"), some (.bool true)]⟩) .nil) (.node ⟨.type "type", none, .cls { name := (.ofString "Contexts"), bases := [.type "object"], mro := [.ref 479, .type "object"], ns := 478, qualname := (.ofString "Contexts") }, #[none, none, some (zS "Contexts" 829), some (zS "Contexts" 837), some (.builtin "object.__new__"), some (.bool true)]⟩ (lf (cO "__init__" "Gdef.__init__" 1273 579 6 3 730 true 731 .none (.ref 732) (.ref 733) (.ref 734) 1282)) .nil)))) (.node ⟨.type "builtin_function_or_method", none, .fields #[.builtin "object.__init_subclass__", .ref 43], #[]⟩ (.node (tO #[zS "number" 296]) (.node ⟨.type "getset_descriptor", none, .fields #[zS "__dict__" 392, .ref 142, .builtin "function.__dict__", .builtin "function.__dict__#set"], #[]⟩ (.node (fO (stF 31) rfl "found_at" .none "joinedhand.matching" 518 270) (lf (tO #[])) (lf (fO (stF 96) rfl "_law_draw" .none "law_pf0148_01" 1336 782))) (.node ⟨.type "super", none, .fields #[.ref 396, .ref 396, .ref 396], #[]⟩ (lf nO) .nil)) (.node (tO #[zS "row" 475, zS "begin" 476, zS "end" 477, zS "first" 478, zS "behind" 479]) (.node (tO #[zS "row" 662, zS "at" 663, zS "old_id" 664, zS "lig_id" 665, zS "ahead" 666, zS "count" 667, zS "spot" 668]) (lf (cO "Single" "Single" 1059 465 0 0 589 false 590 .none .none .none .none 1062)) .nil) (.node (tO #[]) (lf ⟨.type "getset_descriptor", none, .fields #[zS "__weakref__" 1248, .ref 717, .builtin "ExceptionGroup.__weakref__", .none], #[]⟩) .nil))) (.node (fO (stF 13) rfl "nested_scene" .none "joinedhand.flags" 194 110) (.node (cO "told" "Buffer.told" 432 108 1 3 172 true 173 .none .none .none (.ref 174) 435) (.node (tO #[]) (lf nO) .nil) (.node (tO #[zS "self" 813]) (lf (cO "__init__" "ClassDef.__init__" 1205 556 2 3 682 true 683 .none (.ref 684) (.ref 685) (.ref 686) 1210)) .nil)) (.node (tO #[zS "zwj" 520, zS "hidden" 521]) (.node nO (lf (fT (stF 78) rfl "apply_multiple")) .nil) (.node nO (lf (tO #[])) .nil))))) (.node ⟨.type "builtin_function_or_method", none, .fields #[.builtin "type.__prepare__", .type "type"], #[]⟩ (.node (cO "told" "Lookup.told" 227 17 1 3 36 true 37 .none .none .none (.ref 38) 230) (.node nO (.node (tO #[zS "self" 371]) (.node (cO "is_borne" "is_borne" 547 192 2 3 258 true 259 .none (.ref 260) (.ref 261) (.ref 262) 552) (lf (fO (stM 64 0) rfl "Places.__init__" .none "joinedhand.nested" 919 518)) (lf (cO "no_gdef" "no_gdef" 1330 600 0 3 770 true 771 .none (.ref 772) (.ref 773) (.ref 774) 1333))) (.node (fT (stM 49 3) rfl "Coverage.told") (lf (tO #[])) .nil)) (.node nO (.node nO (lf (fT (stF 74) rfl "apply_reverse")) .nil) (.node (fT (stM 55 0) rfl "Contexts.__init__") (lf nO) .nil))) (.node (cO "takes" "takes" 319 46 2 3 98 true 99 .none (.ref 100) (.ref 101) (.ref 102) 324) (.node (tO #[]) (.node (tO #[zS "scene" 605, zS "at" 606, zS "tests" 607]) (lf (tO #[])) .nil) (.node nO (lf ⟨.none, none, .fields #[.int 556 0, .int 4 0, .ref 687, .int 559 0, .int 4 0, .ref 694, .int 562 0, .int 4 0, .ref 701, .int 565 0, .int 4 0, .ref 708, .int 571 0, .int 4 0, .ref 713], #[]⟩) .nil)) (.node (fT (stF 22) rfl "drop_cluster") (.node (tO #[]) (lf (tO #[])) .nil) (.node (cO "told_row" "told_row" 889 367 1 3 484 true 485 .none .none .none (.ref 486) 892) (lf (fO (stM 93 1) rfl "Gdef.glyph_class" .none "joinedhand.gdef" 1253 742)) .nil)))) (.node (tO #[.int 0 257]) (.node (tO #[]) (.node ⟨.none, none, .fields #[.int 96 0, .int 4 0, .ref 160, .int 102 0, .int 4 0, .ref 165, .int 105 0, .int 4 0, .ref 170, .int 108 0, .int 4 0, .ref 175, .int 111 0, .int 4 0, .ref 182, .int 115 0, .int 4 0, .ref 189], #[]⟩ (.node (tO #[]) (lf nO) (lf (tO #[]))) (.node (fO (stF 50) rfl "coverage_of" .none "joinedhand.coverage" 708 406) (lf (tO #[zS "scene" 1173, zS "count" 1174, zS "at" 1175])) .nil)) (.node (cO "merge" "merge" 483 130 3 3 212 true 213 .none .none .none (.ref 214) 486) (.node (tO #[]) (lf (fO (stM 76 0) rfl "Single.__init__" .none "joinedhand.single" 1055 598)) .nil) (.node nO (lf (cO "Gdef" "Gdef" 1263 577 0 0 725 false 726 .none .none .none .none 1266)) .nil))) (.node (tO #[]) (.node (fO (stM 16 4) rfl "Buffer.next_lig" .none "joinedhand.buffer" 336 182) (.node (fT (stF 37) rfl "hold_together") (lf (tO #[zS "scene" 1021, zS "places" 1022, zS "actions" 1023, zS "apply_at" 1024, zS "action" 1025])) .nil) (.node ⟨.type "getset_descriptor", none, .fields #[zS "__dict__" 822, .ref 438, .builtin "function.__dict__", .builtin "function.__dict__#set"], #[]⟩ (lf (fO (stM 88 1) rfl "ClassDef.class_of" .none "joinedhand.classdefs" 1191 694)) .nil)) (.node nO (.node (tO #[zS "self" 733, zS "glyph" 734, zS "low" 735, zS "high" 736, zS "middle" 737]) (lf (cO "choice_of" "choice_of" 1117 496 2 3 626 true 627 .none (.ref 628) (.ref 629) (.ref 630) 1123)) .nil) (.node (fT (stF 59) rfl "rules_at") (lf nO) .nil)))))) (.node (tO #[]) (.node (fT (stF 0) rfl "_wall") (.node (fO (stM 6 0) rfl "Lookup.__init__" .none "joinedhand.flags" 194 34) (.node ⟨.type "getset_descriptor", none, .fields #[zS "__weakref__" 281, .ref 65, .builtin "ExceptionGroup.__weakref__", .none], #[]⟩ (.node (cO "copied" "Info.copied" 360 75 1 3 126 true 127 .none (.ref 128) (.ref 129) (.ref 130) 365) (.node nO (lf (tO #[zS "self" 942, zS "row" 943, zS "end" 944])) (lf nO)) (.node (tO #[]) (lf (tO #[])) .nil)) (.node ⟨.type "getset_descriptor", none, .fields #[zS "__weakref__" 459, .ref 193, .builtin "ExceptionGroup.__weakref__", .none], #[]⟩ (.node (fT (stF 42) rfl "way_of") (lf (tO #[])) .nil) (.node (tO #[]) (lf (fT (stM 88 3) rfl "ClassDef.count")) .nil))) (.node nO (.node nO (.node (cO "ahead_at" "ahead_at" 593 222 3 3 286 true 287 .none (.ref 288) (.ref 289) (.ref 290) 599) (lf nO) .nil) (.node (fT (stM 54 0) rfl "Rule.__init__") (lf (tO #[])) .nil)) (.node (cO "hand_back" "hand_back" 495 145 3 3 222 true 223 .none (.ref 224) (.ref 225) (.ref 226) 503) (.node (tO #[]) (lf ⟨.type "builtin_function_or_method", none, .fields #[.builtin "object.__init_subclass__", .ref 607], #[]⟩) .nil) (.node ⟨.type "builtin_function_or_method", none, .fields #[.builtin "object.__init_subclass__", .ref 479], #[]⟩ (lf (tO #[zS "self" 1288, zS "glyph" 1289, zS "number" 1290])) .nil)))) (.node (tO #[]) (.node (fO (stF 9) rfl "class_bit" .none "joinedhand.flags" 194 82) (.node (tO #[]) (.node (tO #[]) (lf (fT (stF 65) rfl "match_rule")) (lf (tO #[]))) (.node (tO #[zS "glyphs" 768, zS "found" 769, zS "glyph" 770]) (lf (cO "run_forward" "run_forward" 1160 531 1 3 654 true 655 .none (.ref 656) (.ref 657) (.ref 658) 1167)) .nil)) (.node (fO (stF 18) rfl "widened" .none "joinedhand.buffer" 336 210) (.node (fO (stF 44) rfl "tie_behind" .none "joinedhand.ligature" 629 338) (lf (tO #[zS "self" 1072, zS "mapping" 1073])) .nil) (.node (fT (stM 55 2) rfl "Contexts.used_classes") (lf ⟨.type "builtin_function_or_method", none, .fields #[.builtin "type.__prepare__", .type "type"], #[]⟩) .nil))) (.node (tO #[]) (.node (tO #[zS "self" 441]) (.node (tO #[]) (lf (cO "do_action" "do_action" 1003 420 4 3 558 true 559 .none (.ref 560) (.ref 561) (.ref 562) 1015)) .nil) (.node (fO (stM 54 2) rfl "Rule.reach" .none "joinedhand.contexts" 774 434) (lf (tO #[zS "self" 1216, zS "glyph" 1217])) .nil)) (.node (fT (stF 27) rfl "glyph_tests") (.node (cO "__init__" "Coverage.__init__" 722 301 2 3 366 true 367 .none (.ref 368) (.ref 369) (.ref 370) 727) (lf nO) .nil) (.node (cO "rule_tests" "rule_tests" 901 373 2 3 494 true 495 .none (.ref 496) (.ref 497) (.ref 498) 910) (lf (fT (stM 93 3) rfl "Gdef.is_in_set")) .nil))))) (.node (cO "Lookup" "Lookup" 206 9 0 0 25 false 26 .none .none .none .none 209) (.node ⟨.type "type", none, .cls { name := (.ofString "Lookup"), bases := [.type "object"], mro := [.ref 43, .type "object"], ns := 42, qualname := (.ofString "Lookup") }, #[none, none, some (zS "Lookup" 204), some (zS "Lookup" 212), some (.builtin "object.__new__"), some (.bool true)]⟩ (.node (cO "attach_wanted" "attach_wanted" 286 30 1 3 70 true 71 .none (.ref 72) (.ref 73) (.ref 74) 290) (.node (fO (stM 15 2) rfl "Info.told" .none "joinedhand.buffer" 336 138) (.node (tO #[zS "scene" 558, zS "at" 559, zS "step" 560, zS "test" 561, zS "kinds" 562, zS "is_input" 563, zS "here" 564, zS "info" 565]) (lf ⟨.type "getset_descriptor", none, .fields #[zS "__dict__" 951, .ref 522, .builtin "function.__dict__", .builtin "function.__dict__#set"], #[]⟩) (lf (tO #[zS "pen" 1341, zS "many" 1342, zS "at" 1343]))) (.node ⟨.type "dict", none, .dict #[eS P "__module__" 717 (zS "joinedhand.coverage" 708), eS P "__firstlineno__" 721 (.int 299 720), eS P "__init__" 729 (.ref 372), eS P "index" 740 (.ref 379), eS P "has" 748 (.ref 386), eS P "told" 755 (.ref 393), eS P "__static_attributes__" 757 (.ref 394), eS P "__dict__" 759 (.ref 397), eS P "__weakref__" 761 (.ref 398), eS P "__doc__" 762 .none] 4, #[]⟩ (lf (fT (stF 83) rfl "substitute_at")) .nil)) (.node (cO "set_cluster" "set_cluster" 464 118 2 3 198 true 199 .none (.ref 200) (.ref 201) (.ref 202) 469) (.node (cO "tie" "tie" 648 247 4 3 326 true 327 .none (.ref 328) (.ref 329) (.ref 330) 656) (lf ⟨.type "builtin_function_or_method", none, .fields #[.builtin "type.__prepare__", .type "type"], #[]⟩) .nil) (.node nO (lf (tO #[zS "classes" 1244])) .nil))) (.node (tO #[zS "scene" 330, zS "number" 331, zS "found" 332]) (.node (fO (stM 16 2) rfl "Buffer.clusters" .none "joinedhand.buffer" 336 170) (.node (fO (stF 35) rfl "back_at" .none "joinedhand.matching" 518 298) (lf (fT (stF 69) rfl "move")) .nil) (.node (cO "told" "Rule.told" 803 338 1 3 422 true 423 .none (.ref 424) (.ref 425) (.ref 426) 807) (lf nO) .nil)) (.node nO (.node ⟨.none, none, .fields #[.int 301 0, .int 4 0, .ref 371, .int 304 0, .int 4 0, .ref 378, .int 317 0, .int 4 0, .ref 385, .int 320 0, .int 4 0, .ref 392], #[]⟩ (lf (tO #[])) .nil) (.node (fT (stF 57) rfl "tests_of") (lf (tO #[])) .nil)))) (.node (tO #[]) (.node (tO #[]) (.node (tO #[]) (.node (fT (stF 33) rfl "last_at") (lf (cO "inner_scene" "inner_scene" 974 404 2 3 534 true 535 .none (.ref 536) (.ref 537) (.ref 538) 979)) (lf (fO (stF 98) rfl "law" .none "law_pf0148_01" 1336 794))) (.node (tO #[]) (lf (fO (stF 85) rfl "run_backward" .none "joinedhand.gsub" 1138 666)) .nil)) (.node (fT (stF 20) rfl "hang") (.node (tO #[]) (lf (cO "told" "Single.told" 1077 470 1 3 600 true 601 .none .none .none (.ref 602) 1080)) .nil) (.node (cO "rules" "Contexts.rules" 866 361 1 3 470 true 471 .none (.ref 472) (.ref 473) (.ref 474) 873) (lf nO) .nil))) (.node (fT (stM 15 0) rfl "Info.__init__") (.node (tO #[]) (.node nO (lf (fO (stF 71) rfl "do_actions" .none "joinedhand.nested" 919 570)) .nil) (.node (tO #[]) (lf (tO #[])) .nil)) (.node (tO #[]) (.node (fO (stM 49 1) rfl "Coverage.index" .none "joinedhand.coverage" 708 378) (lf (tO #[zS "scene" 1129, zS "table" 1130, zS "at" 1131, zS "info" 1132, zS "choices" 1133, zS "choice" 1134])) .nil) (.node ⟨.type "builtin_function_or_method", none, .fields #[.builtin "type.__prepare__", .type "type"], #[]⟩ (lf (tO #[zS "attach" 1317, zS "carets" 1318, zS "classes" 1319, zS "points" 1320, zS "sets" 1321])) .nil))))))) (.node ⟨.type "module", (some 3), .plain, #[]⟩ (.node ⟨.type "code", none, .fields #[zS "<module>" 176, zS "<module>" 177, zS "/claim/cut.py" 178, .int 1 0, .int 0 0, .int 0 0, .int 0 0, .int 0 0, .ref 7, .bool false, .int 175 0, .ref 8, .none, .none, .none, .none, .int 179 0, .int 1 0, zS "/claim/cut.py" 180], #[]⟩ (.node (tO #[zS "k" 190]) (.node (fT (stM 6 0) rfl "Lookup.__init__") (.node ⟨.type "type", none, .cls { name := (.ofString "Scene"), bases := [.type "object"], mro := [.ref 65, .type "object"], ns := 64, qualname := (.ofString "Scene") }, #[none, none, some (zS "Scene" 245), some (zS "Scene" 253), some (.builtin "object.__new__"), some (.bool true)]⟩ (.node (tO #[]) (.node (fO (stF 29) rfl "fits" .none "joinedhand.matching" 518 256) (lf (tO #[])) (lf ⟨.type "builtin_function_or_method", none, .fields #[.builtin "object.__init_subclass__", .ref 765], #[]⟩)) (.node (cO "has" "Coverage.has" 741 317 2 3 380 true 381 .none (.ref 382) (.ref 383) (.ref 384) 746) (lf nO) .nil)) (.node ⟨.type "type", none, .cls { name := (.ofString "Buffer"), bases := [.type "object"], mro := [.ref 193, .type "object"], ns := 192, qualname := (.ofString "Buffer") }, #[none, none, some (zS "Buffer" 399), some (zS "Buffer" 407), some (.builtin "object.__new__"), some (.bool true)]⟩ (.node (tO #[]) (lf (cO "apply_context" "apply_context" 1029 443 4 3 572 true 573 .none (.ref 574) (.ref 575) (.ref 576) 1038)) .nil) (.node ⟨.type "frame", none, .plain, #[some (.ref 448), some (.ref 3), some (.ref 445), none, some (zS "joinedhand.contexts" 774), none, some (.ref 0)]⟩ (lf (tO #[zS "self" 1232, zS "most" 1233, zS "glyph" 1234])) .nil))) (.node (fO (stF 11) rfl "passes" .none "joinedhand.flags" 194 96) (.node (fO (stM 16 0) rfl "Buffer.__init__" (.ref 154) "joinedhand.buffer" 336 160) (.node (tO #[]) (lf (fO (stF 67) rfl "grow" .none "joinedhand.nested" 919 544)) .nil) (.node (tO #[zS "self" 795, zS "back" 796, zS "inside" 797, zS "ahead" 798, zS "actions" 799]) (lf (cO "run_substitution" "run_substitution" 1179 548 5 3 668 true 669 .none (.ref 670) (.ref 671) (.ref 672) 1188)) .nil)) (.node (tO #[]) (.node nO (lf ⟨.type "getset_descriptor", none, .fields #[zS "__weakref__" 1087, .ref 607, .builtin "ExceptionGroup.__weakref__", .none], #[]⟩) .nil) (.node ⟨.type "getset_descriptor", none, .fields #[zS "__weakref__" 884, .ref 479, .builtin "ExceptionGroup.__weakref__", .none], #[]⟩ (lf (tO #[])) .nil)))) (.node ⟨.type "builtin_function_or_method", none, .fields #[.builtin "type.__prepare__", .type "type"], #[]⟩ (.node (fT (stF 9) rfl "class_bit") (.node ⟨.type "super", none, .fields #[.ref 142, .ref 142, .ref 142], #[]⟩ (.node nO (lf (tO #[zS "scene" 961, zS "at" 962, zS "tests" 963, zS "back" 964, zS "inside" 965, zS "ahead" 966, zS "actions" 967, zS "places" 968, zS "begin" 969, zS "end" 970])) (lf nO)) (.node (tO #[]) (lf (tO #[])) .nil)) (.node (fT (stF 18) rfl "widened") (.node (fT (stF 44) rfl "tie_behind") (lf (tO #[])) .nil) (.node (tO #[zS "self" 862]) (lf ⟨.type "builtin_function_or_method", none, .fields #[.builtin "object.__init_subclass__", .ref 717], #[]⟩) .nil))) (.node ⟨.type "builtin_function_or_method", none, .fields #[.builtin "type.__prepare__", .type "type"], #[]⟩ (.node (tO #[]) (.node (cO "is_piece" "is_piece" 611 226 1 3 300 true 301 .none (.ref 302) (.ref 303) (.ref 304) 615) (lf (tO #[])) .nil) (.node (fT (stM 54 2) rfl "Rule.reach") (lf (tO #[])) .nil)) (.node (tO #[]) (.node (tO #[]) (lf (fO (stF 78) rfl "apply_multiple" .none "joinedhand.single" 1055 624)) .nil) (.node (tO #[]) (lf (tO #[zS "self" 1305, zS "number" 1306, zS "glyph" 1307])) .nil))))) (.node (tO #[]) (.node (tO #[zS "flag" 233, zS "kind" 234, zS "mark_set" 235, zS "tables" 236]) (.node (tO #[]) (.node (fT (stM 15 2) rfl "Info.told") (.node (tO #[]) (lf ⟨.type "dict", none, .dict #[eS P "__module__" 934 (zS "joinedhand.nested" 919), eS P "__firstlineno__" 938 (.int 389 937), eS P "__init__" 947 (.ref 519), eS P "__static_attributes__" 950 (.ref 520), eS P "__dict__" 952 (.ref 523), eS P "__weakref__" 954 (.ref 524), eS P "__doc__" 955 .none] 4, #[]⟩) (lf (tO #[]))) (.node (fO (stM 49 3) rfl "Coverage.told" .none "joinedhand.coverage" 708 392) (lf (tO #[zS "scene" 1153, zS "at" 1154, zS "table" 1155, zS "found" 1156])) .nil)) (.node (tO #[]) (.node (tO #[]) (lf (fO (stF 74) rfl "apply_reverse" .none "joinedhand.reverse" 1041 584)) .nil) (.node (fO (stM 55 0) rfl "Contexts.__init__" (.ref 450) "joinedhand.contexts" 774 456) (lf (cO "told" "ClassDef.told" 1238 571 1 3 710 true 711 .none .none .none (.ref 712) 1241)) .nil))) (.node (tO #[]) (.node (fT (stM 16 2) rfl "Buffer.clusters") (.node (fT (stF 35) rfl "back_at") (lf (tO #[zS "places" 997, zS "index" 998, zS "change" 999])) .nil) (.node (tO #[]) (lf ⟨.type "frame", none, .plain, #[some (.ref 680), some (.ref 3), some (.ref 677), none, some (zS "joinedhand.classdefs" 1191), none, some (.ref 0)]⟩) .nil)) (.node (fO (stF 22) rfl "drop_cluster" .none "joinedhand.buffer" 336 232) (.node ⟨.type "dict", none, .dict #[eS P "__module__" 717 (zS "joinedhand.coverage" 708), eS P "__qualname__" 719 (zS "Coverage" 718), eS P "__firstlineno__" 721 (.int 299 720), eS P "__init__" 729 (.ref 372), eS P "index" 740 (.ref 379), eS P "has" 748 (.ref 386), eS P "told" 755 (.ref 393), eS P "__static_attributes__" 757 (.ref 394)] 8, #[]⟩ (lf (cO "apply_single" "apply_single" 1092 472 3 3 612 true 613 .none (.ref 614) (.ref 615) (.ref 616) 1099)) .nil) (.node (tO #[]) (lf nO) .nil)))) (.node nO (.node (cO "is_ignored" "is_ignored" 300 34 3 3 84 true 85 .none (.ref 86) (.ref 87) (.ref 88) 308) (.node ⟨.type "frame", none, .plain, #[some (.ref 152), some (.ref 3), some (.ref 149), none, some (zS "joinedhand.buffer" 336), none, some (.ref 0)]⟩ (.node (tO #[zS "scene" 584, zS "at" 585, zS "step" 586, zS "tests" 587, zS "here" 588, zS "test" 589]) (lf (tO #[])) (lf (fT (stF 98) rfl "law"))) (.node ⟨.type "builtin_function_or_method", none, .fields #[.builtin "type.__prepare__", .type "type"], #[]⟩ (lf (fT (stF 85) rfl "run_backward")) .nil)) (.node (tO #[]) (.node (cO "tie_all" "tie_all" 672 257 4 3 340 true 341 .none (.ref 342) (.ref 343) (.ref 344) 685) (lf nO) .nil) (.node (tO #[]) (lf (tO #[.none, .none])) .nil))) (.node (tO #[zS "self" 353, zS "code" 354, zS "glyph" 355, zS "cluster" 356]) (.node nO (.node (fO (stF 37) rfl "hold_together" .none "joinedhand.matching" 518 312) (lf (fT (stF 71) rfl "do_actions")) .nil) (.node ⟨.type "super", none, .fields #[.ref 438, .ref 438, .ref 438], #[]⟩ (lf nO) .nil)) (.node (cO "cover_tests" "cover_tests" 533 184 1 3 246 true 247 .none .none .none (.ref 248) 536) (.node (fT (stM 49 1) rfl "Coverage.index") (lf (tO #[])) .nil) (.node (fO (stF 59) rfl "rules_at" .none "joinedhand.contexts" 774 504) (lf (cO "told" "Gdef.told" 1311 596 1 3 758 true 759 .none .none .none (.ref 760) 1314)) .nil)))))) (.node (cO "<module>" "<module>" 182 1 0 0 11 false 12 .none .none .none .none 185) (.node (fO (stF 0) rfl "_wall" .none "__main__" 164 20) (.node nO (.node ⟨.type "builtin_function_or_method", none, .fields #[.builtin "object.__init_subclass__", .ref 65], #[]⟩ (.node (tO #[]) (.node (tO #[]) (lf (fT (stM 64 0) rfl "Places.__init__")) (lf (tO #[]))) (.node (tO #[zS "self" 752]) (lf (cO "apply_table" "apply_table" 1140 513 4 3 640 true 641 .none (.ref 642) (.ref 643) (.ref 644) 1147)) .nil)) (.node ⟨.type "builtin_function_or_method", none, .fields #[.builtin "object.__init_subclass__", .ref 193], #[]⟩ (.node (fO (stF 42) rfl "way_of" .none "joinedhand.ligature" 629 324) (lf (tO #[zS "scene" 1046, zS "table" 1047, zS "at" 1048, zS "info" 1049, zS "begin" 1050, zS "end" 1051])) .nil) (.node (tO #[zS "self" 844, zS "form" 845, zS "is_chained" 846, zS "sets" 847, zS "coverage" 848, zS "classes" 849]) (lf (fO (stM 88 3) rfl "ClassDef.count" .none "joinedhand.classdefs" 1191 708)) .nil))) (.node (tO #[]) (.node (cO "glyphs" "Buffer.glyphs" 420 102 1 3 162 true 163 .none .none .none (.ref 164) 423) (.node (tO #[]) (lf (cO "shrink" "shrink" 988 409 3 3 546 true 547 .none .none .none (.ref 548) 991)) .nil) (.node (fO (stM 54 0) rfl "Rule.__init__" .none "joinedhand.contexts" 774 420) (lf ⟨.type "dict", none, .dict #[eS P "__module__" 1200 (zS "joinedhand.classdefs" 1191), eS P "__qualname__" 1202 (zS "ClassDef" 1201), eS P "__firstlineno__" 1204 (.int 554 1203), eS P "__init__" 1212 (.ref 688), eS P "class_of" 1220 (.ref 695), eS P "glyphs_of" 1228 (.ref 702), eS P "count" 1237 (.ref 709), eS P "told" 1243 (.ref 714), eS P "__static_attributes__" 1245 (.ref 715)] 9, #[]⟩) .nil)) (.node (tO #[]) (.node (cO "apply_ligature" "apply_ligature" 694 286 3 3 352 true 353 .none (.ref 354) (.ref 355) (.ref 356) 705) (lf nO) .nil) (.node nO (lf (fT (stM 93 1) rfl "Gdef.glyph_class")) .nil)))) (.node (cO "Scene" "Scene" 247 20 0 0 51 false 52 .none .none .none .none 250) (.node nO (.node ⟨.type "dict", none, .dict #[eS P "__module__" 406 (zS "joinedhand.buffer" 336), eS P "__qualname__" 408 (zS "Buffer" 407), eS P "__firstlineno__" 410 (.int 94 409), eS P "__init__" 419 (.ref 161), eS P "glyphs" 425 (.ref 166), eS P "clusters" 431 (.ref 171), eS P "told" 437 (.ref 176), eS P "next_lig" 444 (.ref 183), eS P "next_split" 451 (.ref 190), eS P "__static_attributes__" 456 (.ref 191)] 10, #[]⟩ (.node (cO "input_at" "input_at" 569 205 3 3 272 true 273 .none (.ref 274) (.ref 275) (.ref 276) 578) (lf (fO (stF 65) rfl "match_rule" .none "joinedhand.nested" 919 532)) (lf (cO "_law_walk" "_law_walk" 1347 609 3 3 784 true 785 .none (.ref 786) (.ref 787) (.ref 788) 1354))) (.node (fT (stF 50) rfl "coverage_of") (lf (tO #[])) .nil)) (.node nO (.node nO (lf (fT (stM 76 0) rfl "Single.__init__")) .nil) (.node (fO (stM 55 2) rfl "Contexts.used_classes" .none "joinedhand.contexts" 774 468) (lf (tO #[])) .nil))) (.node (cO "Info" "Info" 340 55 0 0 115 false 116 .none .none .none .none 343) (.node (fT (stM 16 4) rfl "Buffer.next_lig") (.node (tO #[zS "row" 621, zS "positions" 622, zS "first" 623, zS "at" 624, zS "other" 625]) (lf (tO #[])) .nil) (.node ⟨.type "dict", none, .dict #[eS P "__module__" 787 (zS "joinedhand.contexts" 774), eS P "__firstlineno__" 791 (.int 330 790), eS P "__init__" 802 (.ref 421), eS P "told" 809 (.ref 428), eS P "reach" 816 (.ref 435), eS P "__static_attributes__" 821 (.ref 436), eS P "__dict__" 823 (.ref 439), eS P "__weakref__" 825 (.ref 440), eS P "__doc__" 826 .none] 4, #[]⟩ (lf (fT (stM 88 1) rfl "ClassDef.class_of")) .nil)) (.node (fO (stF 27) rfl "glyph_tests" .none "joinedhand.matching" 518 244) (.node (tO #[]) (lf (tO #[])) .nil) (.node (tO #[]) (lf (fO (stM 93 3) rfl "Gdef.is_in_set" .none "joinedhand.gdef" 1253 756)) .nil))))) (.node (tO #[]) (.node ⟨.type "getset_descriptor", none, .fields #[zS "__weakref__" 240, .ref 43, .builtin "ExceptionGroup.__weakref__", .none], #[]⟩ (.node (tO #[]) (.node ⟨.type "dict", none, .dict #[eS P "__module__" 345 (zS "joinedhand.buffer" 336), eS P "__firstlineno__" 349 (.int 55 348), eS P "__init__" 359 (.ref 125), eS P "copied" 367 (.ref 132), eS P "told" 374 (.ref 139), eS P "__static_attributes__" 391 (.ref 140), eS P "__dict__" 393 (.ref 143), eS P "__weakref__" 395 (.ref 144), eS P "__doc__" 396 .none] 4, #[]⟩ (.node (fT (stF 31) rfl "found_at") (lf ⟨.type "super", none, .fields #[.ref 522, .ref 522, .ref 522], #[]⟩) (lf (fT (stF 96) rfl "_law_draw"))) (.node ⟨.type "getset_descriptor", none, .fields #[zS "__dict__" 758, .ref 396, .builtin "function.__dict__", .builtin "function.__dict__#set"], #[]⟩ (lf (fO (stF 83) rfl "substitute_at" .none "joinedhand.gsub" 1138 652)) .nil)) (.node (tO #[]) (.node (tO #[]) (lf (tO #[])) .nil) (.node (cO "told" "Contexts.told" 853 352 1 3 458 true 459 .none .none .none (.ref 460) 856) (lf ⟨.type "type", none, .cls { name := (.ofString "ClassDef"), bases := [.type "object"], mro := [.ref 717, .type "object"], ns := 716, qualname := (.ofString "ClassDef") }, #[none, none, some (zS "ClassDef" 1193), some (zS "ClassDef" 1201), some (.builtin "object.__new__"), some (.bool true)]⟩) .nil))) (.node (fT (stF 13) rfl "nested_scene") (.node nO (.node nO (lf (fO (stF 69) rfl "move" .none "joinedhand.nested" 919 556)) .nil) (.node (tO #[]) (lf (tO #[])) .nil)) (.node (cO "put" "put" 512 164 4 3 234 true 235 .none .none .none (.ref 236) 515) (.node ⟨.type "frame", none, .plain, #[some (.ref 364), some (.ref 3), some (.ref 361), none, some (zS "joinedhand.coverage" 708), none, some (.ref 0)]⟩ (lf (tO #[zS "scene" 1105, zS "table" 1106, zS "at" 1107, zS "info" 1108, zS "pieces" 1109, zS "is_bound" 1110, zS "split_id" 1111, zS "part" 1112, zS "piece" 1113])) .nil) (.node (fO (stF 57) rfl "tests_of" .none "joinedhand.contexts" 774 492) (lf (cO "attach_class" "Gdef.attach_class" 1294 590 2 3 744 true 745 .none (.ref 746) (.ref 747) (.ref 748) 1299)) .nil)))) (.node (cO "__init__" "Scene.__init__" 258 22 7 3 56 true 57 .none (.ref 58) (.ref 59) (.ref 60) 268) (.node (tO #[zS "scene" 314, zS "at" 315]) (.node (tO #[zS "self" 414, zS "infos" 415, zS "is_backward" 416]) (.node (fO (stF 33) rfl "last_at" .none "joinedhand.matching" 518 284) (lf (tO #[])) .nil) (.node (cO "Rule" "Rule" 782 330 0 0 411 false 412 .none .none .none .none 785) (lf nO) .nil)) (.node (fO (stF 20) rfl "hang" .none "joinedhand.buffer" 336 220) (.node (fT (stF 46) rfl "join") (lf (tO #[zS "mapping" 1083])) .nil) (.node (tO #[zS "classes" 876, zS "coverage" 877, zS "form" 878, zS "is_chained" 879, zS "sets" 880]) (lf (tO #[])) .nil))) (.node (fO (stM 15 0) rfl "Info.__init__" .none "joinedhand.buffer" 336 124) (.node (cO "next_split" "Buffer.next_split" 445 115 1 3 184 true 185 .none (.ref 186) (.ref 187) (.ref 188) 449) (.node (tO #[]) (lf nO) .nil) (.node ⟨.type "dict", none, .dict #[eS P "__module__" 836 (zS "joinedhand.contexts" 774), eS P "__qualname__" 838 (zS "Contexts" 837), eS P "__firstlineno__" 840 (.int 343 839), eS P "__init__" 852 (.ref 457), eS P "told" 858 (.ref 462), eS P "used_classes" 865 (.ref 469), eS P "rules" 875 (.ref 476), eS P "__static_attributes__" 881 (.ref 477)] 8, #[]⟩ (lf (cO "glyphs_of" "ClassDef.glyphs_of" 1221 562 2 3 696 true 697 .none (.ref 698) (.ref 699) (.ref 700) 1226)) .nil)) (.node (tO #[zS "test" 542, zS "glyph" 543]) (.node nO (lf (fT (stF 80) rfl "apply_alternate")) .nil) (.node (tO #[]) (lf ⟨.type "type", none, .cls { name := (.ofString "Gdef"), bases := [.type "object"], mro := [.ref 765, .type "object"], ns := 764, qualname := (.ofString "Gdef") }, #[none, none, some (zS "Gdef" 1261), some (zS "Gdef" 1269), some (.builtin "object.__new__"), some (.bool true)]⟩) .nil)))))))) (.node ⟨.none, none, .dict #[] 0, #[]⟩ (.node ⟨.type "module", (some 0), .plain, #[]⟩ (.node nO (.node nO (.node (tO #[]) (.node ⟨.type "dict", none, .dict #[eS P "__module__" 252 (zS "joinedhand.flags" 194), eS P "__firstlineno__" 256 (.int 20 255), eS P "__init__" 270 (.ref 62), eS P "__static_attributes__" 278 (.ref 63), eS P "__dict__" 280 (.ref 66), eS P "__weakref__" 282 (.ref 67), eS P "__doc__" 283 .none] 4, #[]⟩ (.node (tO #[zS "self" 363, zS "found" 364]) (.node (cO "fits" "fits" 539 186 2 3 251 true 252 .none (.ref 253) (.ref 254) (.ref 255) 544) (lf ⟨.type "frame", none, .plain, #[some (.ref 511), some (.ref 3), some (.ref 508), none, some (zS "joinedhand.nested" 919), none, some (.ref 0)]⟩) (lf ⟨.type "super", none, .fields #[.ref 765, .ref 765, .ref 765], #[]⟩)) (.node (fT (stM 49 2) rfl "Coverage.has") (lf (tO #[])) .nil)) (.node ⟨.type "dict", none, .dict #[eS P "__module__" 406 (zS "joinedhand.buffer" 336), eS P "__firstlineno__" 410 (.int 94 409), eS P "__init__" 419 (.ref 161), eS P "glyphs" 425 (.ref 166), eS P "clusters" 431 (.ref 171), eS P "told" 437 (.ref 176), eS P "next_lig" 444 (.ref 183), eS P "next_split" 451 (.ref 190), eS P "__static_attributes__" 456 (.ref 191), eS P "__dict__" 458 (.ref 194), eS P "__weakref__" 460 (.ref 195), eS P "__doc__" 461 .none] 4, #[]⟩ (.node (fO (stF 41) rfl "part_count" .none "joinedhand.ligature" 629 319) (lf (fT (stF 72) rfl "apply_context")) .nil) (.node (cO "Contexts" "Contexts" 831 343 0 0 446 false 447 .none .none .none .none 834) (lf nO) .nil))) (.node (cO "passes" "passes" 311 44 2 3 91 true 92 .none (.ref 93) (.ref 94) (.ref 95) 316) (.node (cO "__init__" "Buffer.__init__" 411 96 3 3 155 true 156 .none (.ref 157) (.ref 158) (.ref 159) 417) (.node (tO #[zS "scene" 596, zS "at" 597, zS "tests" 598]) (lf (cO "grow" "grow" 982 406 3 3 541 true 542 .none .none .none (.ref 543) 985)) .nil) (.node nO (lf (fT (stF 86) rfl "run_substitution")) .nil)) (.node (tO #[zS "row" 498, zS "at" 499, zS "cluster" 500, zS "before" 501, zS "spot" 502]) (.node (tO #[]) (lf ⟨.type "getset_descriptor", none, .fields #[zS "__dict__" 1085, .ref 607, .builtin "function.__dict__", .builtin "function.__dict__#set"], #[]⟩) .nil) (.node ⟨.type "getset_descriptor", none, .fields #[zS "__dict__" 882, .ref 479, .builtin "function.__dict__", .builtin "function.__dict__#set"], #[]⟩ (lf (fO (stM 93 0) rfl "Gdef.__init__" (.ref 729) "joinedhand.gdef" 1253 735)) .nil)))) (.node (tO #[]) (.node (tO #[]) (.node ⟨.type "getset_descriptor", none, .fields #[zS "__weakref__" 394, .ref 142, .builtin "ExceptionGroup.__weakref__", .none], #[]⟩ (.node (tO #[]) (lf nO) (lf (tO #[]))) (.node ⟨.type "builtin_function_or_method", none, .fields #[.builtin "object.__init_subclass__", .ref 396], #[]⟩ (lf (tO #[zS "scene" 1163, zS "count" 1164, zS "at" 1165, zS "found" 1166])) .nil)) (.node (tO #[]) (.node (tO #[]) (lf ⟨.type "frame", none, .plain, #[some (.ref 591), some (.ref 3), some (.ref 588), none, some (zS "joinedhand.single" 1055), none, some (.ref 0)]⟩) .nil) (.node nO (lf ⟨.type "super", none, .fields #[.ref 717, .ref 717, .ref 717], #[]⟩) .nil))) (.node (tO #[]) (.node (fO (stM 16 3) rfl "Buffer.told" .none "joinedhand.buffer" 336 175) (.node (fT (stF 36) rfl "is_piece") (lf (tO #[zS "scene" 1006, zS "places" 1007, zS "action" 1008, zS "apply_at" 1009, zS "index" 1010, zS "number" 1011, zS "inner" 1012, zS "size" 1013, zS "change" 1014])) .nil) (.node (tO #[]) (lf (fO (stM 88 0) rfl "ClassDef.__init__" .none "joinedhand.classdefs" 1191 687)) .nil)) (.node (tO #[zS "zwj" 523, zS "zwnj" 524, zS "hidden" 525]) (.node (tO #[zS "self" 725, zS "glyphs" 726]) (lf (cO "apply_multiple" "apply_multiple" 1102 478 3 3 619 true 620 .none (.ref 621) (.ref 622) (.ref 623) 1114)) .nil) (.node (tO #[zS "table" 904, zS "rule" 905, zS "word" 906, zS "back" 907, zS "inside" 908, zS "ahead" 909]) (lf nO) .nil))))) (.node ⟨.type "dict", none, .dict #[eS P "__module__" 211 (zS "joinedhand.flags" 194), eS P "__qualname__" 213 (zS "Lookup" 212), eS P "__firstlineno__" 215 (.int 9 214), eS P "__init__" 226 (.ref 35), eS P "told" 232 (.ref 40), eS P "__static_attributes__" 237 (.ref 41)] 6, #[]⟩ (.node (fO (stM 6 1) rfl "Lookup.told" .none "joinedhand.flags" 194 39) (.node (tO #[zS "flag" 289]) (.node (tO #[]) (.node (fO (stF 30) rfl "is_borne" .none "joinedhand.matching" 518 263) (lf (tO #[zS "end" 948, zS "row" 949])) (lf (fO (stF 94) rfl "no_gdef" .none "joinedhand.gdef" 1253 775))) (.node (cO "told" "Coverage.told" 749 320 1 3 387 true 388 .none (.ref 389) (.ref 390) (.ref 391) 753) (lf nO) .nil)) (.node (tO #[zS "info" 467, zS "cluster" 468]) (.node (tO #[zS "info" 651, zS "lig_id" 652, zS "ahead" 653, zS "count" 654, zS "part" 655]) (lf (cO "apply_reverse" "apply_reverse" 1043 453 3 3 579 true 580 .none (.ref 581) (.ref 582) (.ref 583) 1052)) .nil) (.node (cO "__init__" "Contexts.__init__" 841 345 6 3 451 true 452 .none (.ref 453) (.ref 454) (.ref 455) 850) (lf (fT (stM 88 4) rfl "ClassDef.told")) .nil))) (.node (fO (stF 12) rfl "takes" .none "joinedhand.flags" 194 103) (.node nO (.node (tO #[]) (lf nO) .nil) (.node (tO #[zS "self" 806]) (lf (cO "ClassDef" "ClassDef" 1195 554 0 0 678 false 679 .none .none .none .none 1198)) .nil)) (.node (cO "drop_cluster" "drop_cluster" 506 151 2 3 229 true 230 .none .none .none (.ref 231) 509) (.node ⟨.type "builtin_function_or_method", none, .fields #[.builtin "type.__prepare__", .type "type"], #[]⟩ (lf (fT (stF 77) rfl "apply_single")) .nil) (.node (fO (stF 56) rfl "told_row" .none "joinedhand.contexts" 774 487) (lf (tO #[])) .nil)))) (.node (tO #[]) (.node (fT (stF 10) rfl "is_ignored") (.node (cO "Buffer" "Buffer" 401 94 0 0 150 false 151 .none .none .none .none 404) (.node nO (lf (tO #[zS "scene" 977, zS "number" 978])) (lf nO)) (.node (tO #[]) (lf (tO #[])) .nil)) (.node (fO (stF 19) rfl "merge" .none "joinedhand.buffer" 336 215) (.node (fT (stF 45) rfl "tie_all") (lf (tO #[])) .nil) (.node (tO #[zS "self" 869, zS "found" 870, zS "key" 871, zS "rule" 872]) (lf ⟨.type "frame", none, .plain, #[some (.ref 727), some (.ref 3), some (.ref 724), none, some (zS "joinedhand.gdef" 1253), none, some (.ref 0)]⟩) .nil))) (.node nO (.node (tO #[]) (.node (cO "hold_together" "hold_together" 618 228 2 3 307 true 308 .none (.ref 309) (.ref 310) (.ref 311) 626) (lf (tO #[])) .nil) (.node ⟨.type "getset_descriptor", none, .fields #[zS "__weakref__" 824, .ref 438, .builtin "ExceptionGroup.__weakref__", .none], #[]⟩ (lf (tO #[])) .nil)) (.node (fT (stF 28) rfl "cover_tests") (.node (tO #[]) (lf (fO (stF 79) rfl "choice_of" .none "joinedhand.single" 1055 631)) .nil) (.node (cO "rules_at" "rules_at" 913 377 2 3 501 true 502 .none .none .none (.ref 503) 916) (lf (fT (stM 93 4) rfl "Gdef.told")) .nil)))))) (.node ⟨.none, none, .fields #[.int 1 0, .int 0 0, .ref 20, .int 9 0, .int 0 0, .ref 27, .int 20 0, .int 0 0, .ref 53, .int 30 0, .int 0 0, .ref 75, .int 32 0, .int 0 0, .ref 82, .int 34 0, .int 0 0, .ref 89, .int 44 0, .int 0 0, .ref 96, .int 46 0, .int 0 0, .ref 103, .int 48 0, .int 0 0, .ref 110, .int 55 0, .int 0 0, .ref 117, .int 94 0, .int 0 0, .ref 152, .int 118 0, .int 0 0, .ref 203, .int 122 0, .int 0 0, .ref 210, .int 130 0, .int 0 0, .ref 215, .int 137 0, .int 0 0, .ref 220, .int 145 0, .int 0 0, .ref 227, .int 151 0, .int 0 0, .ref 232, .int 164 0, .int 0 0, .ref 237, .int 182 0, .int 0 0, .ref 244, .int 184 0, .int 0 0, .ref 249, .int 186 0, .int 0 0, .ref 256, .int 192 0, .int 0 0, .ref 263, .int 194 0, .int 0 0, .ref 270, .int 205 0, .int 0 0, .ref 277, .int 215 0, .int 0 0, .ref 284, .int 222 0, .int 0 0, .ref 291, .int 224 0, .int 0 0, .ref 298, .int 226 0, .int 0 0, .ref 305, .int 228 0, .int 0 0, .ref 312, .int 241 0, .int 0 0, .ref 319, .int 243 0, .int 0 0, .ref 324, .int 247 0, .int 0 0, .ref 331, .int 252 0, .int 0 0, .ref 338, .int 257 0, .int 0 0, .ref 345, .int 269 0, .int 0 0, .ref 350, .int 286 0, .int 0 0, .ref 357, .int 299 0, .int 0 0, .ref 364, .int 322 0, .int 0 0, .ref 406, .int 330 0, .int 0 0, .ref 413, .int 343 0, .int 0 0, .ref 448, .int 367 0, .int 0 0, .ref 487, .int 369 0, .int 0 0, .ref 492, .int 373 0, .int 0 0, .ref 499, .int 377 0, .int 0 0, .ref 504, .int 389 0, .int 0 0, .ref 511, .int 394 0, .int 0 0, .ref 532, .int 404 0, .int 0 0, .ref 539, .int 406 0, .int 0 0, .ref 544, .int 409 0, .int 0 0, .ref 549, .int 411 0, .int 0 0, .ref 556, .int 420 0, .int 0 0, .ref 563, .int 438 0, .int 0 0, .ref 570, .int 443 0, .int 0 0, .ref 577, .int 453 0, .int 0 0, .ref 584, .int 465 0, .int 0 0, .ref 591, .int 472 0, .int 0 0, .ref 617, .int 478 0, .int 0 0, .ref 624, .int 496 0, .int 0 0, .ref 631, .int 504 0, .int 0 0, .ref 638, .int 513 0, .int 0 0, .ref 645, .int 525 0, .int 0 0, .ref 652, .int 531 0, .int 0 0, .ref 659, .int 542 0, .int 0 0, .ref 666, .int 548 0, .int 0 0, .ref 673, .int 554 0, .int 0 0, .ref 680, .int 577 0, .int 0 0, .ref 727, .int 600 0, .int 0 0, .ref 775, .int 603 0, .int 0 0, .ref 782, .int 609 0, .int 0 0, .ref 789, .int 617 0, .int 0 0, .ref 794], #[]⟩ (.node (cO "_wall" "_wall" 187 1 1 3 15 true 16 .none (.ref 17) (.ref 18) (.ref 19) 191) (.node (tO #[]) (.node ⟨.type "super", none, .fields #[.ref 65, .ref 65, .ref 65], #[]⟩ (.node (fO (stM 15 1) rfl "Info.copied" .none "joinedhand.buffer" 336 131) (.node (tO #[zS "scene" 550, zS "info" 551]) (lf (tO #[])) (lf (tO #[]))) (.node nO (lf (fT (stF 82) rfl "apply_table")) .nil)) (.node ⟨.type "super", none, .fields #[.ref 193, .ref 193, .ref 193], #[]⟩ (.node (cO "way_of" "way_of" 642 243 2 3 321 true 322 .none .none .none (.ref 323) 645) (lf nO) .nil) (.node nO (lf (cO "count" "ClassDef.count" 1229 565 1 3 703 true 704 .none (.ref 705) (.ref 706) (.ref 707) 1235)) .nil))) (.node (tO #[zS "scene" 322, zS "at" 323]) (.node (fT (stM 16 1) rfl "Buffer.glyphs") (.node (fO (stF 34) rfl "ahead_at" .none "joinedhand.matching" 518 291) (lf (fT (stF 68) rfl "shrink")) .nil) (.node (cO "__init__" "Rule.__init__" 792 332 5 3 415 true 416 .none (.ref 417) (.ref 418) (.ref 419) 800) (lf ⟨.type "builtin_function_or_method", none, .fields #[.builtin "type.__prepare__", .type "type"], #[]⟩) .nil)) (.node (fO (stF 21) rfl "hand_back" .none "joinedhand.buffer" 336 227) (.node (fT (stF 47) rfl "apply_ligature") (lf (tO #[])) .nil) (.node (tO #[]) (lf (tO #[])) .nil)))) (.node ⟨.none, none, .fields #[.int 22 0, .int 4 0, .ref 61], #[]⟩ (.node (tO #[]) (.node ⟨.type "builtin_function_or_method", none, .fields #[.builtin "type.__prepare__", .type "type"], #[]⟩ (.node (fT (stF 32) rfl "input_at") (lf (cO "match_rule" "match_rule" 958 394 3 3 527 true 528 .none (.ref 529) (.ref 530) (.ref 531) 971)) (lf (fT (stF 97) rfl "_law_walk"))) (.node (tO #[]) (lf (fO (stF 84) rfl "run_forward" .none "joinedhand.gsub" 1138 659)) .nil)) (.node (tO #[]) (.node (tO #[]) (lf (tO #[])) .nil) (.node (cO "used_classes" "Contexts.used_classes" 859 358 1 3 463 true 464 .none (.ref 465) (.ref 466) (.ref 467) 863) (lf ⟨.type "dict", none, .dict #[eS P "__module__" 1268 (zS "joinedhand.gdef" 1253), eS P "__qualname__" 1270 (zS "Gdef" 1269), eS P "__firstlineno__" 1272 (.int 577 1271), eS P "__init__" 1284 (.ref 736), eS P "glyph_class" 1293 (.ref 743), eS P "attach_class" 1301 (.ref 750), eS P "is_in_set" 1310 (.ref 757), eS P "told" 1316 (.ref 762), eS P "__static_attributes__" 1322 (.ref 763)] 9, #[]⟩) .nil))) (.node ⟨.none, none, .fields #[.int 57 0, .int 4 0, .ref 124, .int 75 0, .int 4 0, .ref 131, .int 92 0, .int 4 0, .ref 138], #[]⟩ (.node (tO #[]) (.node nO (lf (fO (stF 70) rfl "do_action" .none "joinedhand.nested" 919 563)) .nil) (.node (tO #[zS "actions" 817, zS "ahead" 818, zS "back" 819, zS "inside" 820]) (lf (tO #[])) .nil)) (.node (cO "glyph_tests" "glyph_tests" 527 182 1 3 241 true 242 .none .none .none (.ref 243) 530) (.node (fO (stM 49 0) rfl "Coverage.__init__" .none "joinedhand.coverage" 708 371) (lf (tO #[zS "mask" 1120, zS "bits" 1121, zS "choice" 1122])) .nil) (.node (fO (stF 58) rfl "rule_tests" .none "joinedhand.contexts" 774 499) (lf (cO "is_in_set" "Gdef.is_in_set" 1302 593 3 3 751 true 752 .none (.ref 753) (.ref 754) (.ref 755) 1308)) .nil))))) (.node ⟨.type "frame", none, .plain, #[some (.ref 27), some (.ref 3), some (.ref 24), none, some (zS "joinedhand.flags" 194), none, some (.ref 0)]⟩ (.node ⟨.type "getset_descriptor", none, .fields #[zS "__dict__" 238, .ref 43, .builtin "function.__dict__", .builtin "function.__dict__#set"], #[]⟩ (.node (fO (stF 8) rfl "attach_wanted" .none "joinedhand.flags" 194 75) (.node (tO #[zS "bond" 375, zS "cluster" 376, zS "code" 377, zS "glyph" 378, zS "is_unsafe" 379, zS "kind" 380, zS "lig_count" 381, zS "lig_id" 382, zS "lig_part" 383, zS "mask" 384, zS "parent" 385, zS "split_id" 386, zS "x_advance" 387, zS "x_offset" 388, zS "y_advance" 389, zS "y_offset" 390]) (.node (tO #[]) (lf ⟨.type "getset_descriptor", none, .fields #[zS "__weakref__" 953, .ref 522, .builtin "ExceptionGroup.__weakref__", .none], #[]⟩) (lf (tO #[]))) (.node ⟨.type "type", none, .cls { name := (.ofString "Coverage"), bases := [.type "object"], mro := [.ref 396, .type "object"], ns := 395, qualname := (.ofString "Coverage") }, #[none, none, some (zS "Coverage" 710), some (zS "Coverage" 718), some (.builtin "object.__new__"), some (.bool true)]⟩ (lf (cO "substitute_at" "substitute_at" 1150 525 2 3 647 true 648 .none (.ref 649) (.ref 650) (.ref 651) 1157)) .nil)) (.node (fO (stF 17) rfl "set_cluster" .none "joinedhand.buffer" 336 203) (.node (fO (stF 43) rfl "tie" .none "joinedhand.ligature" 629 331) (lf ⟨.type "dict", none, .dict #[eS P "__module__" 1064 (zS "joinedhand.single" 1055), eS P "__qualname__" 1066 (zS "Single" 1065), eS P "__firstlineno__" 1068 (.int 465 1067), eS P "__init__" 1076 (.ref 599), eS P "told" 1082 (.ref 604), eS P "__static_attributes__" 1084 (.ref 605)] 6, #[]⟩) .nil) (.node (fT (stM 55 1) rfl "Contexts.told") (lf ⟨.type "dict", none, .dict #[eS P "__module__" 1200 (zS "joinedhand.classdefs" 1191), eS P "__firstlineno__" 1204 (.int 554 1203), eS P "__init__" 1212 (.ref 688), eS P "class_of" 1220 (.ref 695), eS P "glyphs_of" 1228 (.ref 702), eS P "count" 1237 (.ref 709), eS P "told" 1243 (.ref 714), eS P "__static_attributes__" 1245 (.ref 715), eS P "__dict__" 1247 (.ref 718), eS P "__weakref__" 1249 (.ref 719), eS P "__doc__" 1250 .none] 4, #[]⟩) .nil))) (.node (tO #[]) (.node (tO #[]) (.node (tO #[]) (lf (cO "move" "move" 994 411 3 3 551 true 552 .none (.ref 553) (.ref 554) (.ref 555) 1000)) .nil) (.node (fO (stM 54 1) rfl "Rule.told" .none "joinedhand.contexts" 774 427) (lf (tO #[zS "self" 1208, zS "classes" 1209])) .nil)) (.node (fT (stF 23) rfl "put") (.node (cO "Coverage" "Coverage" 712 299 0 0 362 false 363 .none .none .none .none 715) (lf nO) .nil) (.node (cO "tests_of" "tests_of" 895 369 3 3 489 true 490 .none .none .none (.ref 491) 898) (lf (fT (stM 93 2) rfl "Gdef.attach_class")) .nil)))) (.node (fT (stM 7 0) rfl "Scene.__init__") (.node nO (.node nO (.node (cO "last_at" "last_at" 581 215 4 3 279 true 280 .none (.ref 281) (.ref 282) (.ref 283) 590) (lf (fO (stF 66) rfl "inner_scene" .none "joinedhand.nested" 919 539)) .nil) (.node ⟨.none, none, .fields #[.int 332 0, .int 4 0, .ref 420, .int 338 0, .int 4 0, .ref 427, .int 341 0, .int 4 0, .ref 434], #[]⟩ (lf (tO #[])) .nil)) (.node (cO "hang" "hang" 489 137 3 3 217 true 218 .none .none .none (.ref 219) 492) (.node nO (lf (fO (stM 76 1) rfl "Single.told" .none "joinedhand.single" 1055 603)) .nil) (.node (fO (stM 55 3) rfl "Contexts.rules" .none "joinedhand.contexts" 774 475) (lf (tO #[zS "self" 1276, zS "classes" 1277, zS "attach" 1278, zS "sets" 1279, zS "points" 1280, zS "carets" 1281])) .nil))) (.node (cO "__init__" "Info.__init__" 350 57 4 3 119 true 120 .none (.ref 121) (.ref 122) (.ref 123) 357) (.node (fT (stM 16 5) rfl "Buffer.next_split") (.node (tO #[zS "info" 638]) (lf (tO #[])) .nil) (.node ⟨.type "builtin_function_or_method", none, .fields #[.builtin "type.__prepare__", .type "type"], #[]⟩ (lf (fT (stM 88 2) rfl "ClassDef.glyphs_of")) .nil)) (.node nO (.node (tO #[]) (lf (tO #[])) .nil) (.node ⟨.type "dict", none, .dict #[eS P "__module__" 934 (zS "joinedhand.nested" 919), eS P "__qualname__" 936 (zS "Places" 935), eS P "__firstlineno__" 938 (.int 389 937), eS P "__init__" 947 (.ref 519), eS P "__static_attributes__" 950 (.ref 520)] 5, #[]⟩ (lf ⟨.type "dict", none, .dict #[eS P "__module__" 1268 (zS "joinedhand.gdef" 1253), eS P "__firstlineno__" 1272 (.int 577 1271), eS P "__init__" 1284 (.ref 736), eS P "glyph_class" 1293 (.ref 743), eS P "attach_class" 1301 (.ref 750), eS P "is_in_set" 1310 (.ref 757), eS P "told" 1316 (.ref 762), eS P "__static_attributes__" 1322 (.ref 763), eS P "__dict__" 1324 (.ref 766), eS P "__weakref__" 1326 (.ref 767), eS P "__doc__" 1327 .none] 4, #[]⟩) .nil))))))) (.node ⟨.type "dict", none, .dict #[] 0, #[]⟩ (.node ⟨.type "frame", none, .plain, #[some (.ref 9), some (.ref 3), some (.ref 3), none, some (zS "__main__" 164), none, some (.ref 0)]⟩ (.node (tO #[]) (.node (cO "__init__" "Lookup.__init__" 216 11 5 3 29 true 30 .none (.ref 31) (.ref 32) (.ref 33) 224) (.node ⟨.type "getset_descriptor", none, .fields #[zS "__dict__" 279, .ref 65, .builtin "function.__dict__", .builtin "function.__dict__#set"], #[]⟩ (.node (fT (stM 15 1) rfl "Info.copied") (.node (tO #[]) (lf nO) (lf (tO #[]))) (.node (fO (stM 49 2) rfl "Coverage.has" .none "joinedhand.coverage" 708 385) (lf (tO #[zS "scene" 1143, zS "kind" 1144, zS "table" 1145, zS "at" 1146])) .nil)) (.node ⟨.type "getset_descriptor", none, .fields #[zS "__dict__" 457, .ref 193, .builtin "function.__dict__", .builtin "function.__dict__#set"], #[]⟩ (.node nO (lf (fO (stF 72) rfl "apply_context" .none "joinedhand.nested" 919 577)) .nil) (.node (tO #[.none, .none]) (lf (tO #[])) .nil))) (.node (tO #[]) (.node (tO #[]) (.node (fT (stF 34) rfl "ahead_at") (lf (tO #[])) .nil) (.node (tO #[]) (lf (fO (stF 86) rfl "run_substitution" .none "joinedhand.gsub" 1138 673)) .nil)) (.node (fT (stF 21) rfl "hand_back") (.node (tO #[zS "scene" 697, zS "table" 698, zS "at" 699, zS "row" 700, zS "first" 701, zS "rest" 702, zS "ligature" 703, zS "places" 704]) (lf ⟨.type "super", none, .fields #[.ref 607, .ref 607, .ref 607], #[]⟩) .nil) (.node ⟨.type "super", none, .fields #[.ref 479, .ref 479, .ref 479], #[]⟩ (lf nO) .nil)))) (.node ⟨.type "dict", none, .dict #[eS P "__module__" 252 (zS "joinedhand.flags" 194), eS P "__qualname__" 254 (zS "Scene" 253), eS P "__firstlineno__" 256 (.int 20 255), eS P "__init__" 270 (.ref 62), eS P "__static_attributes__" 278 (.ref 63)] 5, #[]⟩ (.node (cO "class_bit" "class_bit" 293 32 1 3 77 true 78 .none (.ref 79) (.ref 80) (.ref 81) 297) (.node ⟨.type "builtin_function_or_method", none, .fields #[.builtin "object.__init_subclass__", .ref 142], #[]⟩ (.node (tO #[zS "scene" 572, zS "at" 573, zS "tests" 574, zS "found" 575, zS "test" 576, zS "here" 577]) (lf (tO #[])) (lf (tO #[zS "deeds" 1350, zS "number" 1351, zS "state" 1352, zS "goal" 1353]))) (.node nO (lf (fT (stF 84) rfl "run_forward")) .nil)) (.node (cO "widened" "widened" 472 122 3 3 205 true 206 .none (.ref 207) (.ref 208) (.ref 209) 480) (.node (cO "tie_behind" "tie_behind" 659 252 6 3 333 true 334 .none (.ref 335) (.ref 336) (.ref 337) 669) (lf nO) .nil) (.node (tO #[]) (lf (tO #[])) .nil))) (.node ⟨.type "dict", none, .dict #[eS P "__module__" 345 (zS "joinedhand.buffer" 336), eS P "__qualname__" 347 (zS "Info" 346), eS P "__firstlineno__" 349 (.int 55 348), eS P "__init__" 359 (.ref 125), eS P "copied" 367 (.ref 132), eS P "told" 374 (.ref 139), eS P "__static_attributes__" 391 (.ref 140)] 7, #[]⟩ (.node nO (.node (fO (stF 36) rfl "is_piece" .none "joinedhand.matching" 518 305) (lf (fT (stF 70) rfl "do_action")) .nil) (.node (cO "reach" "Rule.reach" 810 341 1 3 429 true 430 .none (.ref 431) (.ref 432) (.ref 433) 814) (lf nO) .nil)) (.node nO (.node (fT (stM 49 0) rfl "Coverage.__init__") (lf (tO #[])) .nil) (.node (fT (stF 58) rfl "rule_tests") (lf (tO #[])) .nil))))) (.node ⟨.none, none, .fields #[.int 11 0, .int 4 0, .ref 34, .int 17 0, .int 4 0, .ref 39], #[]⟩ (.node ⟨.type "dict", none, .dict #[eS P "__module__" 211 (zS "joinedhand.flags" 194), eS P "__firstlineno__" 215 (.int 9 214), eS P "__init__" 226 (.ref 35), eS P "told" 232 (.ref 40), eS P "__static_attributes__" 237 (.ref 41), eS P "__dict__" 239 (.ref 44), eS P "__weakref__" 241 (.ref 45), eS P "__doc__" 242 .none] 4, #[]⟩ (.node (fT (stF 8) rfl "attach_wanted") (.node (cO "told" "Info.told" 368 92 1 3 133 true 134 .none (.ref 135) (.ref 136) (.ref 137) 372) (.node nO (lf ⟨.type "type", none, .cls { name := (.ofString "Places"), bases := [.type "object"], mro := [.ref 522, .type "object"], ns := 521, qualname := (.ofString "Places") }, #[none, none, some (zS "Places" 927), some (zS "Places" 935), some (.builtin "object.__new__"), some (.bool true)]⟩) (lf nO)) (.node (tO #[zS "glyphs" 756]) (lf (tO #[])) .nil)) (.node (fT (stF 17) rfl "set_cluster") (.node (fT (stF 43) rfl "tie") (lf (tO #[])) .nil) (.node (tO #[]) (lf (fO (stM 88 4) rfl "ClassDef.told" .none "joinedhand.classdefs" 1191 713)) .nil))) (.node nO (.node (cO "clusters" "Buffer.clusters" 426 105 1 3 167 true 168 .none .none .none (.ref 169) 429) (.node (cO "back_at" "back_at" 602 224 3 3 293 true 294 .none (.ref 295) (.ref 296) (.ref 297) 608) (lf (tO #[])) .nil) (.node (fT (stM 54 1) rfl "Rule.told") (lf (tO #[])) .nil)) (.node (tO #[]) (.node (tO #[]) (lf (fO (stF 77) rfl "apply_single" .none "joinedhand.single" 1055 617)) .nil) (.node nO (lf (tO #[zS "self" 1297, zS "glyph" 1298])) .nil)))) (.node (tO #[zS "self" 261, zS "buffer" 262, zS "gdef" 263, zS "lookups" 264, zS "lookup" 265, zS "mask" 266, zS "depth" 267]) (.node (fO (stF 10) rfl "is_ignored" .none "joinedhand.flags" 194 89) (.node (tO #[.bool false]) (.node (tO #[]) (lf (fT (stF 66) rfl "inner_scene")) (lf (cO "law" "law" 1357 617 1 3 791 true 792 .none .none .none (.ref 793) 1360))) (.node ⟨.type "dict", none, .dict #[eS P "__module__" 787 (zS "joinedhand.contexts" 774), eS P "__qualname__" 789 (zS "Rule" 788), eS P "__firstlineno__" 791 (.int 330 790), eS P "__init__" 802 (.ref 421), eS P "told" 809 (.ref 428), eS P "reach" 816 (.ref 435), eS P "__static_attributes__" 821 (.ref 436)] 7, #[]⟩ (lf (cO "run_backward" "run_backward" 1170 542 1 3 661 true 662 .none (.ref 663) (.ref 664) (.ref 665) 1176)) .nil)) (.node nO (.node (fO (stF 45) rfl "tie_all" .none "joinedhand.ligature" 629 345) (lf (fT (stM 76 1) rfl "Single.told")) .nil) (.node (fT (stM 55 3) rfl "Contexts.rules") (lf (tO #[])) .nil))) (.node (tO #[]) (.node (tO #[zS "self" 448]) (.node (tO #[]) (lf (cO "do_actions" "do_actions" 1018 438 4 3 565 true 566 .none (.ref 567) (.ref 568) (.ref 569) 1026)) .nil) (.node ⟨.type "builtin_function_or_method", none, .fields #[.builtin "object.__init_subclass__", .ref 438], #[]⟩ (lf (tO #[zS "self" 1224, zS "number" 1225])) .nil)) (.node (fO (stF 28) rfl "cover_tests" .none "joinedhand.matching" 518 249) (.node (cO "index" "Coverage.index" 730 304 2 3 373 true 374 .none (.ref 375) (.ref 376) (.ref 377) 738) (lf nO) .nil) (.node (tO #[]) (lf (fO (stM 93 4) rfl "Gdef.told" .none "joinedhand.gdef" 1253 761)) .nil)))))) (.node ⟨.type "frame", none, .plain, #[some (.ref 13), some (.ref 3), some (.ref 3), none, some (zS "__main__" 164), none, some (.ref 0)]⟩ (.node (tO #[]) (.node (fT (stM 6 1) rfl "Lookup.told") (.node (tO #[]) (.node nO (.node (fT (stF 30) rfl "is_borne") (lf (cO "__init__" "Places.__init__" 939 391 3 3 513 true 514 .none (.ref 515) (.ref 516) (.ref 517) 945)) (lf (fT (stF 94) rfl "no_gdef"))) (.node (tO #[]) (lf (fO (stF 82) rfl "apply_table" .none "joinedhand.gsub" 1138 645)) .nil)) (.node (tO #[]) (.node (tO #[]) (lf (tO #[])) .nil) (.node (tO #[]) (lf (tO #[])) .nil))) (.node (fT (stF 12) rfl "takes") (.node (fO (stM 16 1) rfl "Buffer.glyphs" .none "joinedhand.buffer" 336 165) (.node nO (lf (fO (stF 68) rfl "shrink" .none "joinedhand.nested" 919 549)) .nil) (.node (tO #[]) (lf (tO #[])) .nil)) (.node nO (.node (fO (stF 47) rfl "apply_ligature" .none "joinedhand.ligature" 629 357) (lf (tO #[zS "scene" 1095, zS "table" 1096, zS "at" 1097, zS "info" 1098])) .nil) (.node (fT (stF 56) rfl "told_row") (lf (cO "glyph_class" "Gdef.glyph_class" 1285 586 2 3 737 true 738 .none (.ref 739) (.ref 740) (.ref 741) 1291)) .nil)))) (.node ⟨.type "frame", none, .plain, #[some (.ref 53), some (.ref 3), some (.ref 50), none, some (zS "joinedhand.flags" 194), none, some (.ref 0)]⟩ (.node (tO #[zS "gdef" 303, zS "lookup" 304, zS "glyph" 305, zS "number" 306, zS "wanted" 307]) (.node (tO #[]) (.node (fO (stF 32) rfl "input_at" .none "joinedhand.matching" 518 277) (lf (tO #[])) (lf (fO (stF 97) rfl "_law_walk" .none "law_pf0148_01" 1336 789))) (.node (cO "coverage_of" "coverage_of" 765 322 1 3 401 true 402 .none (.ref 403) (.ref 404) (.ref 405) 771) (lf nO) .nil)) (.node (fT (stF 19) rfl "merge") (.node (tO #[zS "row" 675, zS "places" 676, zS "way" 677, zS "lig_id" 678, zS "last" 679, zS "ahead" 680, zS "count" 681, zS "old_id" 682, zS "spot" 683, zS "passed" 684]) (lf (cO "__init__" "Single.__init__" 1069 467 2 3 593 true 594 .none (.ref 595) (.ref 596) (.ref 597) 1074)) .nil) (.node (tO #[]) (lf ⟨.none, none, .fields #[.int 579 0, .int 4 0, .ref 735, .int 586 0, .int 4 0, .ref 742, .int 590 0, .int 4 0, .ref 749, .int 593 0, .int 4 0, .ref 756, .int 596 0, .int 4 0, .ref 761], #[]⟩) .nil))) (.node ⟨.type "frame", none, .plain, #[some (.ref 117), some (.ref 3), some (.ref 114), none, some (zS "joinedhand.buffer" 336), none, some (.ref 0)]⟩ (.node (cO "next_lig" "Buffer.next_lig" 438 111 1 3 177 true 178 .none (.ref 179) (.ref 180) (.ref 181) 442) (.node (tO #[]) (lf nO) .nil) (.node ⟨.type "type", none, .cls { name := (.ofString "Rule"), bases := [.type "object"], mro := [.ref 438, .type "object"], ns := 437, qualname := (.ofString "Rule") }, #[none, none, some (zS "Rule" 780), some (zS "Rule" 788), some (.builtin "object.__new__"), some (.bool true)]⟩ (lf (cO "class_of" "ClassDef.class_of" 1213 559 2 3 689 true 690 .none (.ref 691) (.ref 692) (.ref 693) 1218)) .nil)) (.node (tO #[]) (.node nO (lf (fT (stF 79) rfl "choice_of")) .nil) (.node nO (lf (tO #[])) .nil))))) (.node nO (.node ⟨.type "super", none, .fields #[.ref 43, .ref 43, .ref 43], #[]⟩ (.node nO (.node ⟨.type "type", none, .cls { name := (.ofString "Info"), bases := [.type "object"], mro := [.ref 142, .type "object"], ns := 141, qualname := (.ofString "Info") }, #[none, none, some (zS "Info" 338), some (zS "Info" 346), some (.builtin "object.__new__"), some (.bool true)]⟩ (.node (cO "found_at" "found_at" 555 194 6 3 265 true 266 .none (.ref 267) (.ref 268) (.ref 269) 566) (lf ⟨.type "builtin_function_or_method", none, .fields #[.builtin "object.__init_subclass__", .ref 522], #[]⟩) (lf (cO "_law_draw" "_law_draw" 1338 603 2 3 777 true 778 .none (.ref 779) (.ref 780) (.ref 781) 1344))) (.node ⟨.type "getset_descriptor", none, .fields #[zS "__weakref__" 760, .ref 396, .builtin "ExceptionGroup.__weakref__", .none], #[]⟩ (lf (tO #[])) .nil)) (.node nO (.node nO (lf ⟨.none, none, .fields #[.int 467 0, .int 4 0, .ref 598, .int 470 0, .int 4 0, .ref 603], #[]⟩) .nil) (.node (fO (stM 55 1) rfl "Contexts.told" .none "joinedhand.contexts" 774 461) (lf ⟨.type "getset_descriptor", none, .fields #[zS "__dict__" 1246, .ref 717, .builtin "function.__dict__", .builtin "function.__dict__#set"], #[]⟩) .nil))) (.node (cO "nested_scene" "nested_scene" 327 48 2 3 105 true 106 .none (.ref 107) (.ref 108) (.ref 109) 333) (.node (fT (stM 16 3) rfl "Buffer.told") (.node (tO #[zS "info" 614]) (lf (tO #[])) .nil) (.node nO (lf (fT (stM 88 0) rfl "ClassDef.__init__")) .nil)) (.node (fO (stF 23) rfl "put" .none "joinedhand.buffer" 336 237) (.node (tO #[]) (lf (tO #[])) .nil) (.node (tO #[]) (lf (fO (stM 93 2) rfl "Gdef.attach_class" .none "joinedhand.gdef" 1253 749)) .nil)))) (.node (fO (stM 7 0) rfl "Scene.__init__" (.ref 55) "joinedhand.flags" 194 61) (.node (tO #[]) (.node (tO #[]) (.node (tO #[]) (lf nO) .nil) (.node ⟨.type "frame", none, .plain, #[some (.ref 413), some (.ref 3), some (.ref 410), none, some (zS "joinedhand.contexts" 774), none, some (.ref 0)]⟩ (lf (tO #[zS "buffer" 1182, zS "gdef" 1183, zS "lookups" 1184, zS "number" 1185, zS "mask" 1186, zS "scene" 1187])) .nil)) (.node (tO #[]) (.node (cO "join" "join" 688 269 3 3 347 true 348 .none .none .none (.ref 349) 691) (lf ⟨.type "dict", none, .dict #[eS P "__module__" 1064 (zS "joinedhand.single" 1055), eS P "__firstlineno__" 1068 (.int 465 1067), eS P "__init__" 1076 (.ref 599), eS P "told" 1082 (.ref 604), eS P "__static_attributes__" 1084 (.ref 605), eS P "__dict__" 1086 (.ref 608), eS P "__weakref__" 1088 (.ref 609), eS P "__doc__" 1089 .none] 4, #[]⟩) .nil) (.node ⟨.type "dict", none, .dict #[eS P "__module__" 836 (zS "joinedhand.contexts" 774), eS P "__firstlineno__" 840 (.int 343 839), eS P "__init__" 852 (.ref 457), eS P "told" 858 (.ref 462), eS P "used_classes" 865 (.ref 469), eS P "rules" 875 (.ref 476), eS P "__static_attributes__" 881 (.ref 477), eS P "__dict__" 883 (.ref 480), eS P "__weakref__" 885 (.ref 481), eS P "__doc__" 886 .none] 4, #[]⟩ (lf (fT (stM 93 0) rfl "Gdef.__init__")) .nil))) (.node (tO #[]) (.node (fO (stM 16 5) rfl "Buffer.next_split" .none "joinedhand.buffer" 336 189) (.node (fT (stF 41) rfl "part_count") (lf (tO #[zS "scene" 1032, zS "table" 1033, zS "at" 1034, zS "apply_at" 1035, zS "tests" 1036, zS "found" 1037])) .nil) (.node (tO #[]) (lf (fO (stM 88 2) rfl "ClassDef.glyphs_of" .none "joinedhand.classdefs" 1191 701)) .nil)) (.node (tO #[]) (.node (tO #[zS "self" 744, zS "glyph" 745]) (lf (cO "apply_alternate" "apply_alternate" 1126 504 3 3 633 true 634 .none (.ref 635) (.ref 636) (.ref 637) 1135)) .nil) (.node ⟨.none, none, .fields #[.int 391 0, .int 4 0, .ref 518], #[]⟩ (lf ⟨.type "getset_descriptor", none, .fields #[zS "__dict__" 1323, .ref 765, .builtin "function.__dict__", .builtin "function.__dict__#set"], #[]⟩) .nil)))))))))
noncomputable def hd.S3 (w : World) (os : OsState) : SharedT := { tree := hd.tr3 w.params, n := 796, life := {}, gens := #[], drawn := {}, toks := 1363, os := os }
abbrev hd.q3 : Pos := ⟨617, 0, 640, 73⟩
abbrev hd.b2 : List Stmt := (hd.bE.drop 70).take 29
theorem hd.seg2 (w : World) (os : OsState) : Fast.tw10110043849684766642 Fast.tw14364793385576792824 PR w 11 (some (Value.ref 6)) 1 1588 (hd.S2 w os) (piecesOf hd.b2 hd.env hd.cE hd.q2 [topFrame hd.p0]) = some (.next, hd.S3 w os, hd.cE, hd.q3) := by kernel_rfl
theorem hd.sg2 (w : World) (os : OsState) : segRunT treeTable PR w 11 (some (.ref 6)) 1 1588 (hd.S2 w os) (piecesOf hd.b2 hd.env hd.cE hd.q2 [topFrame hd.p0]) = some (.next, hd.S3 w os, hd.cE, hd.q3) := by
  rw [Fast.te10110043849684766642, Fast.te14364793385576792824]
  exact hd.seg2 w os
abbrev hd.b3 : List Stmt := hd.bE.drop 99
abbrev hd.thB : Thread := piecesOf hd.b3 hd.env hd.cE hd.q3 [topFrame hd.p0]
def hd.run (w : World) (os : OsState) : hd.Run := Fast.tw10110043849684766642 Fast.tw14364793385576792824 PR w 11 (some (Value.ref 6)) 1 36 (hd.S3 w os) hd.thB
theorem hd.run_eq (w : World) (os : OsState) : segRunT treeTable PR w 11 (some (.ref 6)) 1 36 (hd.S3 w os) hd.thB = hd.run w os := by
  rw [Fast.te10110043849684766642, Fast.te14364793385576792824]
  rfl
theorem hd.list : hd.bE = (hd.b0 ++ (hd.b1 ++ (hd.b2 ++ (hd.b3 ++ [])))) := by kernel_rfl
def hd.test (w : World) (s : Shared) : Bool := staticsOk (importedModules PR.main.body) (boot_heap w.params) s.heap && namesBound PR s.heap && gensDone s && laidKept (boot_heap w.params) s.heap
def hd.Xt : Shared → Bool := fun s => xlAt hd.view_39 [] s && recOk PySem.Challenge.rw_pf0148_01.row.records s
def hd.as : List Addr := nat_lit 2 :: nat_lit 3 :: nat_lit 34 :: nat_lit 35 :: nat_lit 42 :: nat_lit 43 :: nat_lit 55 :: nat_lit 61 :: nat_lit 62 :: nat_lit 64 :: nat_lit 65 :: nat_lit 82 :: nat_lit 83 :: nat_lit 89 :: nat_lit 90 :: nat_lit 96 :: nat_lit 97 :: nat_lit 103 :: nat_lit 104 :: nat_lit 110 :: nat_lit 111 :: nat_lit 124 :: nat_lit 125 :: nat_lit 141 :: nat_lit 142 :: nat_lit 154 :: nat_lit 160 :: nat_lit 161 :: nat_lit 165 :: nat_lit 166 :: nat_lit 192 :: nat_lit 193 :: nat_lit 220 :: nat_lit 221 :: nat_lit 239 :: nat_lit 240 :: nat_lit 256 :: nat_lit 257 :: nat_lit 277 :: nat_lit 278 :: nat_lit 284 :: nat_lit 285 :: nat_lit 291 :: nat_lit 292 :: nat_lit 298 :: nat_lit 299 :: nat_lit 371 :: nat_lit 372 :: nat_lit 378 :: nat_lit 379 :: nat_lit 385 :: nat_lit 386 :: nat_lit 395 :: nat_lit 396 :: nat_lit 406 :: nat_lit 407 :: nat_lit 420 :: nat_lit 421 :: nat_lit 437 :: nat_lit 438 :: nat_lit 450 :: nat_lit 456 :: nat_lit 457 :: nat_lit 478 :: nat_lit 479 :: nat_lit 492 :: nat_lit 493 :: nat_lit 499 :: nat_lit 500 :: nat_lit 504 :: nat_lit 505 :: nat_lit 518 :: nat_lit 519 :: nat_lit 521 :: nat_lit 522 :: nat_lit 532 :: nat_lit 533 :: nat_lit 539 :: nat_lit 540 :: nat_lit 563 :: nat_lit 564 :: nat_lit 570 :: nat_lit 571 :: nat_lit 577 :: nat_lit 578 :: nat_lit 598 :: nat_lit 599 :: nat_lit 606 :: nat_lit 607 :: nat_lit 617 :: nat_lit 618 :: nat_lit 645 :: nat_lit 646 :: nat_lit 652 :: nat_lit 653 :: nat_lit 659 :: nat_lit 660 :: nat_lit 673 :: nat_lit 674 :: nat_lit 687 :: nat_lit 688 :: nat_lit 694 :: nat_lit 695 :: nat_lit 716 :: nat_lit 717 :: nat_lit 729 :: nat_lit 735 :: nat_lit 736 :: nat_lit 742 :: nat_lit 743 :: nat_lit 764 :: nat_lit 765 :: nat_lit 775 :: nat_lit 776 :: nat_lit 782 :: nat_lit 783 :: nat_lit 789 :: nat_lit 790 :: nat_lit 794 :: nat_lit 795 :: []
abbrev hd.hook : Hook := kHook hd.heap_39 hd.as (fun _ => by kernel_rfl)
def hd.see (w : World) (r : hd.Run) := match r with
  | some (.next, s, c, _) => some (c, hd.test w s.abs, hd.as.map s.abs.heap.get?, Fast.tw4187177175401517315 hd.view_39 hd.loose (importedModules PR.main.body) hd.Xt true s.abs)
  | _ => none
theorem hd.all (w : World) (os : OsState) : hd.see w (hd.run w os) = some (hd.cE, true, (hd.heap_39 w.params).map fun p => some p.2, openGood hd.view_39 hd.loose) := by kernel_rfl
theorem hd.see_of {w : World} {r : hd.Run} {x : Code} {y : Bool} {z : List (Option Obj)} {g} (h : hd.see w r = some (x, y, z, g)) : ∃ s p, r = some (.next, s, x, p) ∧ hd.test w s.abs = y ∧ hd.as.map s.abs.heap.get? = z ∧ Fast.tw4187177175401517315 hd.view_39 hd.loose (importedModules PR.main.body) hd.Xt true s.abs = g := by
  unfold hd.see at h
  split at h
  · rename_i s c p
    injection h with h; injection h with h1 h; injection h with h2 h; injection h with h3 h4
    exact ⟨s, p, by rw [h1], h2, h3, h4⟩
  · cases h
theorem hd.topFrom_of {p : Program} {w : World} {N m₀ : Nat} {h : Heap} {gs : Array GenState} {d : Drawn} {k : Nat} {os : OsState} {ann : Option Value} {s₁ : Shared} (z1 : (h.isNs mainGlobals && gs.size == 0) = true) (z2 : h.objs.size = m₀) (z3 : h.nsMap mainGlobals "__annotations__" = ann)
    (r : topRun treeTable p w m₀ ann N ⟨h, gs, d, k, os⟩ (topStub p) = some s₁) (l : (staticsOk (importedModules p.main.body) h s₁.heap && namesBound p s₁.heap && gensDone s₁ && laidKept h s₁.heap) = true) :
    topFrom treeTable p w N ⟨h, gs, d, k, os⟩ = some s₁ := by
  unfold topFrom
  dsimp only
  rw [z1, z2, z3, r]
  dsimp only [Option.bind]
  rw [l]
theorem hd.left_of {p q : Program} {loose : List Str} {Xt : Shared → Bool} {α : Type} {Yf : Shared → α} {Ya : World → α} {N : Nat} {h : World → Heap} {gs : Array GenState} {d : Drawn} {k : Nat}
    (op : ∀ w, (fencedOpening treeTable p w N).map (fun s => (s.heap, s.gens, s.drawn, s.toks)) = some (h w, gs, d, k))
    (tf : ∀ w os, ∃ s₁, topFrom treeTable p w N ⟨h w, gs, d, k, os⟩ = some s₁ ∧ openSeen q loose (importedModules p.main.body) Xt true s₁ = openGood q loose ∧ Yf s₁ = Ya w) : LeftO p q loose Xt Yf Ya N := fun w => by
  obtain ⟨⟨h', gs', d', k', os⟩, e, e'⟩ := Option.map_eq_some_iff.mp (op w)
  injection e' with e1 e'; injection e' with e2 e'; injection e' with e3 e4
  obtain ⟨s₁, t, l1, l2⟩ := tf w os
  unfold openEnds
  rw [e, Option.bind_some, show topFrom treeTable p w N ⟨h', gs', d', k', os⟩ = some s₁ by rw [← t]; congr]
  show some (_, _) = some (_, _)
  rw [l1, l2]
theorem hd.left : LeftO PR hd.view_39 hd.loose hd.Xt hd.hook.obs hd.hook.val 6000 := hd.left_of hd.open fun w os => by
  obtain ⟨s, p, hr, c2, c4, c3⟩ := hd.see_of (hd.all w os)
  rw [← hd.run_eq] at hr
  have hz := hd.size w
  refine ⟨s.abs, hd.topFrom_of (congrArg Prod.fst hz) (congrArg (fun x => x.2.1) hz) (congrArg (fun x => x.2.2) hz) ?_ c2, ?_, c4⟩
  · have q := go_top (N := 1 + (2026 + (1759 + (1588 + (36 + 2))))) (hd.pre w os) (piece_block (hd.blk w os) (by
      rw [hd.list]
      exact (piece_app (segRun_of (hd.sg0 w os)) (piece_app (segRun_of (hd.sg1 w os)) (piece_app (segRun_of (hd.sg2 w os)) (piece_app (segRun_of hr) (piece_nil (hd.done w s.abs p))))))))
    have q2 := topRun_mono 576 _ _ _ _ q
    rw [show 12 + (1 + (2026 + (1759 + (1588 + (36 + 2))))) + 576 = 6000 from rfl] at q2
    exact q2
  · rw [Fast.te4187177175401517315]
    exact c3
theorem hd.sb1 : (!(importedModules PR.main.body).all cThrough.contains) = false := by kernel_rfl
theorem hd.ro1 : readsOut PR PR.main.body "vars" = false := by rw [Fast.te13343964577679436407]; kernel_rfl
theorem hd.ro2 : readsOut PR PR.main.body "dir" = false := by rw [Fast.te13343964577679436407]; kernel_rfl
theorem hd.ro3 : readsOut PR PR.main.body "locals" = false := by rw [Fast.te13343964577679436407]; kernel_rfl
theorem hd.sb2 : (["vars", "dir", "locals"] : List Str).filter (readsOut PR PR.main.body) = [] := by
  rw [List.filter, hd.ro1, List.filter, hd.ro2, List.filter, hd.ro3, List.filter]
theorem hd.sa1 : namesResolve PR = true := by rw [Fast.te8377067652309620493]; kernel_rfl
theorem hd.sa0 : noRoadLSs { strict := false, foot := none, bare := [] } PR.main.body = true := by rw [Fast.te8326940854005059898]; kernel_rfl
theorem hd.sa2 : noRoadLSs { strict := !(importedModules PR.main.body).all cThrough.contains, foot := none, bare := (["vars", "dir", "locals"] : List Str).filter (readsOut PR PR.main.body) } PR.main.body = true := by rw [hd.sb1, hd.sb2]; exact hd.sa0
theorem hd.sa3 : (namesMeet PR PR.main.body fun _ n => attrL n) = true := by rw [Fast.te17119622794617984870, Fast.te17868728402115742887]; kernel_rfl
theorem hd.sa4 : (namesMeet PySem.Challenge.rw_pf0148_01.prog PySem.Challenge.rw_pf0148_01.above fun _ n => !PySem.Challenge.rw_pf0148_01.own.contains n) = true := by rw [Fast.te17119622794617984870]; simp only [Fast.te3471404346716756564]; kernel_rfl
theorem hd.sa5 : (PySem.Challenge.rw_pf0148_01.bound'.all fun n => !builtinNamed n || PySem.Challenge.rw_pf0148_01.about == [n] || !PySem.Challenge.rw_pf0148_01.reads n) = true := by simp only [Fast.te6984425678791042302, Fast.named_eq]; kernel_rfl
theorem hd.sa6 : (PySem.Challenge.rw_pf0148_01.own.all fun n => !builtinNamed n) = true := by simp only [Fast.named_eq]; kernel_rfl
theorem hd.said : PySem.Challenge.rw_pf0148_01.wellSaid = true := by
  unfold OpenLaw.wellSaid OpenRow.wellSaid OpenRow.partSaid looksOpen
  with_reducible repeat' refine look_both ?_ ?_
  all_goals first
    | with_reducible exact hd.sa1
    | with_reducible exact hd.sa2
    | with_reducible exact hd.sa3
    | with_reducible exact hd.sa4
    | with_reducible exact hd.sa5
    | with_reducible exact hd.sa6
    | (rw [Fast.te17119622794617984870]; kernel_rfl)
    | (rw [Fast.te8326940854005059898]; kernel_rfl)
    | kernel_rfl
theorem hd.whole : PR.tablesWhole = true := by
  rw [show PR.tablesWhole = TablesWhole.wProgram TablesWhole.holds PR from rfl]
  unfold TablesWhole.wProgram TablesWhole.holds
  rw [Fast.te6116379765354995101, Fast.te15985051520779696433]; kernel_rfl
theorem hd.fits : (chainsOk hd.view_39 && opensWell PySem.Challenge.rw_pf0148_01.row.prog && (frees PySem.Challenge.rw_pf0148_01.row.toRowW && PySem.Challenge.rw_pf0148_01.row.within.isEmpty)) = true := by decide +kernel
theorem hd.bare : PySem.Challenge.rw_pf0148_01.row.prog.bare := ⟨rfl, rfl, rfl, rfl, rfl, hd.whole⟩
theorem hd.prom : PySem.Challenge.rw_pf0148_01.row.promised := by w_witness2
theorem hd {d : DefRec} {kwd : List (Str × Expr)} (h1 : defOf hd.view_39 PySem.Challenge.rw_pf0148_01.row.name = some (d, kwd)) (h2 : PySem.Challenge.rw_pf0148_01.row.prog.theDef PySem.Challenge.rw_pf0148_01.row.name = some (d.params, d.body, d.scope)) (h3 : kwWritten? d.params.kwonlyargs d.params.kw_defaults = some kwd)
    (h : WalkO hd.view_39 hd.loose (XL hd.view_39 []) hd.hook.says PySem.Challenge.rw_pf0148_01.row.toRowW d kwd fun f vs => call f vs) : PySem.Challenge.rw_pf0148_01.Holds :=
  holds_law hd.said fun said => PySem.W.holds_open (q := hd.view_39) (loose := hd.loose) (Xt := hd.Xt) (XP := XL hd.view_39 []) (Yf := Hook.obs hd.hook) (Ya := Hook.val hd.hook) (YP := Hook.says hd.hook) (N := 6000) hd.left (Hook.of hd.hook) (Hook.keeps hd.hook)
    (fun s e => xl_of s (Bool.and_eq_true_iff.mp e).1) XL.keeps h1 h2 h3 (fun s e => recFacts_of (Bool.and_eq_true_iff.mp e).2) rfl said hd.fits hd.bare hd.prom h
end
open Classical in
/-- a counterexample to P, if there is one -/
noncomputable def eps {α : Type} (d : α) (P : α → Prop) : α := if h : ∃ a, ¬ P a then h.choose else d
theorem all_eps {α : Type} {d : α} {P : α → Prop} (h : P (eps d P)) : ∀ a, P a := by
  intro a
  by_cases e : ∃ a, ¬ P a
  · unfold eps at h
    rw [dif_pos e] at h
    exact absurd h e.choose_spec
  · exact Classical.byContradiction fun h' => e ⟨a, h'⟩
def dW : World := ⟨fun _ _ => 0, { strHash := fun _ => 0, shareClass := fun _ => 0, mergeTok := id, idOf := fun _ => 0, idOfShared := fun _ _ => 0, followText := fun _ => false, idOfImm := fun _ => 0 }⟩
theorem cut_fold {prog : Program} {w : World} {A : Around} {t : Sem Flow} {q : Flow → Shared → Prop} {e : Value → Shared → Prop} {s : Shared} (h : ∀ qk : Flow → Shared → Prop, (∀ f s, q f s → qk f s) → wpAny (model prog w) A t qk e s) : wpAny (model prog w) A t q e s :=
  h q fun _ _ h => h
theorem by_q {q v : Flow → Shared → Prop} (h : ∀ f s, v f s → q f s) {f : Flow} {s : Shared} (x : v f s) : q f s := h f s x
def Ein {α : Type} (_e : α) : Prop := True
abbrev ein_val {α : Type} {e : α} (_h : Ein e) : α := e
theorem unE {prog : Program} {w : World} {A : Around} {t : Sem Flow} {q : Flow → Shared → Prop} {e : Value → Shared → Prop} {s : Shared} (e' : Value → Shared → Prop) (_h : e' = e) (g : wpAny (model prog w) A t q e s) : wpAny (model prog w) A t q e s := g
open PySem.Spec PyProof.V
section
variable {prog : Program} {w : World} {A : Around} {E : Value → Shared → Prop} {s : Shared} {a₀ : Array Keyed}
/-- a run that rises already is told whole at once -/
theorem wpS_countRunR {st : SortSt} {nrem : Nat} {Q : Option Nat → SortSt → Prop} (h0 : IntKeys a₀) (hn : nrem ≤ a₀.size) (h1 : 1 ≤ nrem) (hB : SBase a₀ st) (hs : SortedTo (arrOf st) nrem)
    (h : Q (some nrem) st) : wpS (model prog w) A E s (countRun' 0 nrem) Q st := by
  rw [countRun0_eq]
  refine wpS_bind (wpS_ascLoop h0 hn (Nat.le_refl 1) h1 hB (fun i j hij hj => by
    have : i = j := by omega
    subst this; exact Int.le_refl _) fun n hn1 hn2 hsn hor => ?_)
  dsimp only
  have hnn : n = nrem := by
    rcases hor with h | h
    · exact h
    · by_cases e : n = nrem
      · exact e
      · exfalso
        have := hs (n - 1) n (by omega) (by omega)
        omega
  rw [if_pos (by simpa using hnn)]
  subst hnn
  exact wpS_pure h
theorem wpS_sortRunsR {st : SortSt} {Q : Unit → SortSt → Prop} {mr : Nat} (h0 : IntKeys a₀) (hB : SBase a₀ st) (h2 : 2 ≤ a₀.size) (hmr : minRun' a₀.size a₀.size 0 = mr) (hle : mr ≤ a₀.size) (hs : SortedTo (arrOf st) a₀.size)
    (h : ∀ st', arrOf st' = arrOf st → failedOf st' = none → Q () st') : wpS (model prog w) A E s sortRuns' Q st := by
  rw [sortRuns'_eq]
  refine wpS_bind (wpS_get ?_)
  dsimp only
  simp only [hB.size, hmr]
  refine wpS_bind (wpS_mono (wpS_forRange
    (I := fun x c st' => (x = 0 ∧ c = (none, 0) ∧ st' = st) ∨ (1 ≤ x ∧ c = (none, a₀.size) ∧ st' = setPending st ((pendingOf st).push (0, a₀.size, 0))))
    (Q := fun c st' => c = (none, a₀.size) ∧ st' = setPending st ((pendingOf st).push (0, a₀.size, 0))) ?step ?fin (.inl ⟨rfl, rfl, rfl⟩)) ?post)
  case fin =>
    rintro c st' (⟨hx, _, _⟩ | ⟨_, hc, hD⟩)
    · omega
    · exact ⟨hc, hD⟩
  case step =>
    rintro x c st' _ hx (⟨rfl, rfl, rfl⟩ | ⟨hx1, rfl, hD⟩)
    · dsimp only
      rw [if_neg (by omega)]
      simp only [Nat.sub_zero, Nat.zero_add]
      refine wpS_bind (wpS_countRunR h0 (Nat.le_refl _) (by omega) hB hs ?_)
      dsimp only
      rw [if_neg (by omega)]
      refine wpS_bind (wpS_get ?_)
      have hb : (pendingOf st').back? = none := by rw [hB.pend]; rfl
      rw [hb]
      dsimp only
      exact wpS_bind (wpS_modify (wpS_pure (.inr ⟨by omega, rfl, rfl⟩)))
    · dsimp only
      rw [if_pos (Nat.le_refl _)]
      exact wpS_pure ⟨rfl, hD⟩
  case post =>
    rintro c st' ⟨rfl, rfl⟩
    dsimp only
    have hp : pendingOf (setPending st ((pendingOf st).push (0, a₀.size, 0))) = #[(0, a₀.size, 0)] := by
      show (pendingOf st).push _ = _
      rw [hB.pend]; rfl
    refine wpS_bind (wpS_mono (wpS_forRange (I := fun _ c st'' => st'' = setPending st ((pendingOf st).push (0, a₀.size, 0)) ∧ c = (none, ())) (Q := fun c st'' => st'' = setPending st ((pendingOf st).push (0, a₀.size, 0)) ∧ c = (none, ())) ?_ (fun _ _ hh => hh) ⟨rfl, rfl⟩) ?_)
    · rintro x c st'' _ _ ⟨rfl, rfl⟩
      refine wpS_bind (wpS_get ?_)
      rw [if_pos (by rw [hp]; exact Nat.le_refl 1)]
      exact wpS_pure ⟨rfl, rfl⟩
    · rintro c st'' ⟨rfl, rfl⟩
      exact wpS_pure (h _ rfl hB.failed)
theorem pairs_back (vs : List Value) : (pairsOf vs).map (·.2) = vs.toArray := by
  have e : ((pairsOf vs).map (·.2)).toList = vs := by
    rw [Array.toList_map, pairsOf_toList]
    exact List.map_snd_zip (Nat.le_refl _)
  have := congrArg List.toArray e
  rwa [Array.toArray_toList] at this
theorem sorted_pairs {vs : List Value} {ns : List Int} (hI : IntsAre vs ns) (hs : ns.Pairwise (· ≤ ·)) : SortedTo (pairsOf vs) (pairsOf vs).size := by
  intro i j hij hj
  have hvl := pairsOf_size vs
  have hnl := hI.length
  have kk : ∀ i, i < vs.length → K (pairsOf vs) i = ns[i]?.getD 0 := by
    intro i hi
    have hi' : i < (pairsOf vs).size := by omega
    rw [K_eq hi']
    have e1 : ((pairsOf vs)[i]).1 = vs[i] := by
      have : (pairsOf vs)[i] = (pairsOf vs).toList[i]'(by simpa using hi') := by simp
      rw [this]
      simp [pairsOf_toList]
    rw [e1]
    have e2 := hI.nums
    have e3 : ns[i]? = some (numOf vs[i]) := by rw [← e2]; simp [hi]
    rw [e3]; rfl
  rw [kk i (by omega), kk j (by omega)]
  rw [List.pairwise_iff_getElem] at hs
  by_cases e : i = j
  · subst e; exact Int.le_refl _
  · have := hs i j (by omega) (by omega) (by omega)
    rw [List.getElem?_eq_getElem (by omega), List.getElem?_eq_getElem (by omega)]
    exact this
theorem list_sort_treeR {a : Addr} {vs : List Value} {ns : List Int} {n mr : Nat} {P : Fin → Shared → Prop} (ho : s.heap.get? a = some (seqObj "list" vs.toArray n))
    (hI : IntsAre vs ns) (hs : ns.Pairwise (· ≤ ·)) (h2 : 2 ≤ vs.length) (hmr : minRun' vs.length vs.length 0 = mr) (hle : mr ≤ vs.length) (hsz : vs.length ≤ 16777216)
    (h : P (.done (.ret .none)) { s with heap := sortedHeap s.heap a vs vs.toArray }) :
    wpAny (model prog w) A (Builtin.«list.sort» ⟨[.ref a], []⟩) P E s := by
  rw [list_sort_plain]
  have ha : a < s.heap.objs.size := Heap.lt_size ho
  refine wpAny_bind (listItems_at ho rfl ?_)
  refine wpAny_bind (listUpdate_at ho rfl ?_ (hsz := by rw [List.size_toArray, sizeLine_eq]; exact hsz) (hsz2 := Nat.zero_le _))
  obtain ⟨e1, ho1⟩ : ∃ e1, (s.heap.update a (Obj.mapSeq fun _ => #[])).get? a = some (seqObj "list" #[] e1) := ⟨_, get?_update_seq ho (fun _ => #[])⟩
  refine wpAny_bind (seqEpoch_at ho1 rfl ?_)
  refine wpAny_bind (wpAny_newTuple ?_)
  refine wpAny_bind (wpAny_newList ?_)
  refine wpAny_holding ?_
  have ho6 : (((s.heap.update a (Obj.mapSeq fun _ => #[])).push (seqObj "tuple" vs.toArray 0)).push (seqObj "list" #[] 0)).get? a = some (seqObj "list" #[] e1) := by
    rw [Heap.get?_push_ne _ _ _ (by rw [size_push', Heap.size_update]; exact Nat.ne_of_lt (Nat.lt_succ_of_lt ha)), Heap.get?_push_ne _ _ _ (by rw [Heap.size_update]; exact Nat.ne_of_lt ha)]
    exact ho1
  show wpAny (model prog w) A _ P E { s with heap := ((s.heap.update a (Obj.mapSeq fun _ => #[])).push (seqObj "tuple" vs.toArray 0)).push (seqObj "list" #[] 0) }
  dsimp only
  have hszA : vs.toArray.size = vs.length := by simp
  have hlt : ¬ vs.toArray.size < 2 := by omega
  rw [if_neg hlt, if_neg hlt]
  obtain ⟨v₁, v₂, rest, rfl⟩ : ∃ v₁ v₂ rest, vs = v₁ :: v₂ :: rest := by
    match vs, h2 with
    | v₁ :: v₂ :: rest, _ => exact ⟨v₁, v₂, rest, rfl⟩
  rw [keyKind_ints hI]
  refine wpAny_bind (wpAny_pure ?_)
  refine wpAny_bind (wpAny_mono (wpS_sortRunsR (a₀ := pairsOf (v₁ :: v₂ :: rest)) (mr := mr) (st := SortSt.mk' oneType' ((v₁ :: v₂ :: rest).toArray.zip (v₁ :: v₂ :: rest).toArray) #[] 7 none)
    (Q := fun _ st' => arrOf st' = pairsOf (v₁ :: v₂ :: rest) ∧ failedOf st' = none)
    hI.intKeys ⟨Array.Perm.refl _, rfl, rfl, rfl⟩ (by rw [pairsOf_size]; exact h2) (by rw [pairsOf_size]; exact hmr) (by rw [pairsOf_size]; exact hle) (sorted_pairs hI hs) fun st' a1 a2 => ⟨a1, a2⟩) ?_ fun _ _ e => e)
  rintro ⟨⟨⟩, st'⟩ s' ⟨rfl, hp, hf⟩
  dsimp only
  refine wpAny_bind (seqEpoch_at ho6 rfl ?_)
  refine wpAny_bind (listUpdate_at ho6 rfl ?_ (hsz := Nat.zero_le _) (hsz2 := by rw [Array.size_map, hp, pairsOf_size, sizeLine_eq]; omega))
  rw [hf]
  simp only [bne_self_eq_false, Bool.false_eq_true, if_false]
  refine wpAny_pure ?_
  rw [hp, pairs_back]
  exact h
theorem range_up (a : Int) (n : Nat) : (rangeKs a n).Pairwise (· ≤ ·) := by
  unfold rangeKs
  rw [List.pairwise_map]
  exact List.pairwise_lt_range.imp fun h => by omega
theorem minRun_270 : minRun' 270 270 0 = 34 := by decide +kernel
variable {h₀ : Heap} {L : Addr} {m : Str → Option Value} {news : List (Addr × Obj)}
/-- list.sort of a made list that rises already -/
theorem lst_sortR {B : Addr} {vs : List Value} {ns : List Int} {n mr : Nat} {Q : Value → Shared → Prop} (F : Fr h₀ L s.heap m) (N : News h₀ L s.heap ((B, listOf vs.toArray n) :: news)) (hb : ∀ p ∈ news, p.1 ≠ B)
    (hI : IntsAre vs ns) (hs : ns.Pairwise (· ≤ ·)) (h2 : 2 ≤ vs.length) (hmr : minRun' vs.length vs.length 0 = mr) (hle : mr ≤ vs.length) (hsz : vs.length ≤ 16777216)
    (h : ∀ h', Fr h₀ L h' m → News h₀ L h' ((B, listOf vs.toArray (n + 2)) :: news) → Q .none { s with heap := h' }) : wpAny (model prog w) A (call (.builtin "list.sort") [.ref B]) Q E s := by
  have z := N (B, listOf vs.toArray n) (.head _)
  refine wpAny_call_entry PyProof.Rows.slot_list_sort ⟨_, z.1, rfl⟩ PyProof.Rows.entry_list_sort (list_sort_treeR (n := n) (vs := vs) z.1 hI hs h2 hmr hle hsz ⟨.none, rfl, ?_⟩) (PyProof.Rows.args_list_sort _)
  have hpos : vs.toArray.size ≠ 0 := by rw [List.size_toArray]; omega
  have F1 : Fr h₀ L (s.heap.update B (Obj.mapSeq fun _ => (#[] : Array Value))) m := F.change (Heap.SameBut.update ..) z.2.1 z.2.2
  have N1 := ki_turn (pre := []) (post := news) (fun _ => (#[] : Array Value)) (its' := #[]) (n' := n + 1) N (fun _ h => nomatch h) hb rfl (by rw [if_neg (by simpa using fun h => hpos h.symm)])
  have N2 := News.grown N1 fun _ _ e => Heap.get?_push_of_some (seqObj "tuple" vs.toArray 0) e
  have N3 := News.grown N2 fun _ _ e => Heap.get?_push_of_some (seqObj "list" #[] 0) e
  have N4 := ki_turn (pre := []) (post := news) (fun _ => vs.toArray) (its' := vs.toArray) (n' := n + 2) N3 (fun _ h => nomatch h) hb rfl (by rw [if_neg (by simpa using hpos)])
  exact h _ (((F1.push (seqObj "tuple" vs.toArray 0)).push (seqObj "list" #[] 0)).change (Heap.SameBut.update ..) z.2.1 z.2.2) N4
theorem ints_of_at : ∀ {vs : List Value} {ns : List Int}, vs.length = ns.length → (∀ (j : Nat) (v : Value) (k : Int), vs[j]? = some v → ns[j]? = some k → ∃ t, v = .int k t) → IntsAre vs ns
  | [], [], _, _ => .nil
  | v :: vs, k :: ns, hl, h => by
    obtain ⟨t, rfl⟩ := h 0 v k rfl rfl
    exact .cons k t (ints_of_at (by simpa using hl) fun j v k hv hk => h (j + 1) v k (by simpa using hv) (by simpa using hk))
/-- sorted of a dict whose keys rise already -/
theorem sorted_dictR {d : Addr} {o : Obj} {kvs : List (Int × Value)} {ns : List Int} {mr : Nat} {Q : Value → Shared → Prop} (hh : A.handled = none) (F : Fr h₀ L s.heap m) (N : News h₀ L s.heap news) (hm : (d, o) ∈ news) (lo : (d == sysModules) = false)
    (hD : o.IsDictOf (PySem.intKind prog w) kvs) (hk : kvs.map (·.1) = ns) (hs : ns.Pairwise (· ≤ ·)) (h2 : 2 ≤ ns.length) (hmr : minRun' ns.length ns.length 0 = mr) (hle : mr ≤ ns.length) (hsz : ns.length ≤ 16777216)
    (h : ∀ (B : Addr) h' tk (vs : List Value), Fr h₀ L h' m → News h₀ L h' ((B, listOf vs.toArray 2) :: news) → (∀ q ∈ news, q.1 < B) → IntsAre vs ns → Q (.ref B) { s with heap := h', toks := tk }) :
    wpAny (model prog w) A (call (.builtin "sorted") [.ref d]) Q E s := by
  have hDO : s.heap.DictOf (PySem.intKind prog w) d kvs := Heap.dictOf_iff.mpr ⟨o, (N _ hm).1, hD⟩
  obtain ⟨ep, hat⟩ := hDO.dictAt
  have hl : kvs.length = ns.length := by rw [← hk, List.length_map]
  refine kdu_sorted (kdl_dict (knd := PySem.intKind prog w) (kvs := kvs) (ep := ep) lo) hh F N hat (kdl_size (by omega)) fun B h' tk vs F' N' l1 hvl hv => ?_
  have hI : IntsAre vs ns := by
    refine ints_of_at (by omega) fun j v k hj hkj => ?_
    obtain ⟨k', x, hx, hisk⟩ := hv j v hj
    have : ns[j]? = some k' := by rw [← hk, List.getElem?_map, hx]; rfl
    rw [this] at hkj
    cases hkj
    exact Flat.int_inv (kdl_flat_int hisk)
  have hvl2 : vs.length = ns.length := by omega
  refine lst_sortR (mr := mr) F' N' (fun p hp => Nat.ne_of_lt (l1 p hp)) hI hs (by omega) (by rw [hvl2]; exact hmr) (by omega) (by omega) fun h'' F'' N'' => ?_
  exact h B h'' tk vs F'' N'' l1 hI
end
open PySem.Spec PyProof.V
theorem keys_miss_list : typeLookup (.type "list") (Str.ofString "keys") = pure none := am_miss_of_fast (by decide +kernel)
theorem plain_upd_loop : plainId "dict.update.loop" = true := by decide +kernel
theorem entry_upd_loop : entryFor table "dict.update.loop" = some Builtin.«dict.update.loop» := entryFor_of_tree (by kernel_rfl)
section
variable {prog : Program} {w : World} {A : Around} {E : Value → Shared → Prop} {s : Shared}
theorem getAttrQ_miss_list {a : Addr} {o : Obj} {xs : Array Value} {k : Nat} {name : Str} {Q : Option Value → Shared → Prop}
    (hx : s.heap.get? a = some o) (hc : o.cls = .type "list") (hdat : o.data = .seq xs k) (hd : o.dict = none) (hmiss : typeLookup (.type "list") name = pure none) (hname : (["__module__", "__name__", "__qualname__", "__doc__", "__annotations__"] : List Str).contains name = false) (hA : A.handled = none)
    (h : ∀ h' tk, (∀ b ob, s.heap.get? b = some ob → h'.get? b = some ob) → Q none { s with heap := h', toks := tk }) (hsz : name.length + 100 ≤ sizeLine := by size_fits) :
    wpAny (model prog w) A (getAttr? (.ref a) name) Q E s := by
  obtain ⟨c, dct, dat, sl⟩ := o
  simp only at hc hdat hd
  subst hc hdat hd
  obtain ⟨hp, g, d, tk, os⟩ := s
  have hT : ∀ tk', (⟨hp, g, d, tk', os⟩ : Shared).TypeIs (.ref a) "list" := fun _ => ⟨_, hx, rfl⟩
  have f1 := sub_AttributeError
  have f3 := F.slot_list_getattribute.lookup
  have f4 := F.slot_list_getattribute.bind (.ref a)
  have f5 := am_list_getattr_none
  unfold getAttr? getAttrBy? getAttrBy
  repeat (any_goals (first | assumption | exact hT _ | ((with_reducible show wpAny _ _ (call (Value.builtin "list.__getattribute__") _ _) _ _ _); refine call_meets F.slot_list_getattribute (hT _) am_entry_list_getattribute (F.args_list_getattribute_2 _ _) (meets_getattribute_miss_list a xs k sl name _ hmiss hname hsz) ⟨hx, hA, fun h' tk' e hx' => ?_⟩) | wp_step))
  obtain ⟨t', u', he⟩ := hx'.there
  show wpAny _ _ (getattributeRaised _ _ _ _ _ _ _) _ _ _
  unfold getattributeRaised
  repeat (any_goals (first | assumption | wp_step))
  exact h _ _ hx'.keeps
/-- the loop of dict.update over a list of pairs -/
theorem upd_loop {R : Result → Shared → Prop} {h₁ : Heap} {d I l : Addr} {vs : List Value} {kvs : List (Int × Value)} (hh : A.handled = none) (hdI : d ≠ I) (hdl : d ≠ l) (hlI : l ≠ I)
    (hp : ∀ (i : Nat) (v : Value), vs[i]? = some v → ∃ (p : Addr) (k : Int) (t : Tok) (x : Value) (c : Nat), v = .ref p ∧ kvs[i]? = some (k, x) ∧ h₁.get? p = some { cls := .type "tuple", data := .seq [Value.int k t, x].toArray c } ∧ p ≠ d ∧ p ≠ I)
    (hlen : vs.length = kvs.length) (hsz : vs.length ≤ sizeLine) :
    ∀ (j i : Nat) (s : Shared), vs.length - i = j → i ≤ vs.length → s.heap.IsListIter I l i → s.heap.IsList l vs.toArray → (∀ b o, b ≠ d → b ≠ I → h₁.get? b = some o → s.heap.get? b = some o) → s.heap.DictOf (PySem.intKind prog w) d (merged [] (kvs.take i)) →
      (∀ h' tk, (∀ b o, b ≠ d → b ≠ I → h₁.get? b = some o → h'.get? b = some o) → h'.DictOf (PySem.intKind prog w) d (merged [] kvs) → R (.ok (.ret .none)) { s with heap := h', toks := tk }) →
      codeAny (model prog w) A (.builtin "dict.update.loop" ⟨[.ref d, .ref I, rawInt (i : Int), .none], []⟩) R s := by
  have W := Walks.list (prog := prog) (w := w) (A := A.in1) hh I l hlI vs.toArray
  rw [List.size_toArray] at W
  intro j
  induction j with
  | zero =>
    intro i s hj hi hit hl hk hd hR
    have hin : i = vs.length := by omega
    subst hin
    refine codeAny_builtin entry_upd_loop ?_
    rw [Around.under_plainId plain_upd_loop _]
    show wpAny _ A.in1 (pyNext (.ref I) >>= _) _ _ s
    refine wpAny_bind (W.done s _ _ ⟨hit, hl⟩ fun h' tk hk' => ?_)
    have hd' : h'.DictOf (PySem.intKind prog w) d (merged [] kvs) := by
      have e : kvs.take vs.length = kvs := by rw [hlen, List.take_length]
      rw [e] at hd
      obtain ⟨o, es, ep, ho, r⟩ := hd
      exact ⟨o, es, ep, hk' d o (fun h => hdI (List.mem_singleton.mp h)) ho, r⟩
    exact wpAny_pure (hR h' tk (fun b o h1 h2 e => hk' b o (fun h => h2 (List.mem_singleton.mp h)) (hk b o h1 h2 e)) hd')
  | succ j ih =>
    intro i s hj hi hit hl hk hd hR
    have hlt : i < vs.length := by omega
    refine codeAny_builtin entry_upd_loop ?_
    rw [Around.under_plainId plain_upd_loop _]
    show wpAny _ A.in1 (pyNext (.ref I) >>= _) _ _ s
    refine wpAny_bind (W.item i s _ _ hlt ⟨hit, hl⟩ fun v h' tk hv st' hk' => ?_)
    obtain ⟨p, k, t, x, c, rfl, hkv, hpo, hpd, hpI⟩ := hp i v (by simpa using hv)
    have hkk : ∀ b o, b ≠ d → b ≠ I → h₁.get? b = some o → h'.get? b = some o := fun b o h1 h2 e => hk' b o (fun h => h2 (List.mem_singleton.mp h)) (hk b o h1 h2 e)
    have hpo' := hkk p _ hpd hpI hpo
    have hd' : h'.DictOf (PySem.intKind prog w) d (merged [] (kvs.take i)) := by
      obtain ⟨o, es, ep, ho, r⟩ := hd
      exact ⟨o, es, ep, hk' d o (fun h => hdI (List.mem_singleton.mp h)) ho, r⟩
    have hT : ({ s with heap := h', toks := tk } : Shared).TypeIs (.ref p) "tuple" := ⟨_, hpo', rfl⟩
    dsimp only
    refine wpAny_bind (wpAny_holding (wpAny_bind (wpAny_tryCatch ?_)))
    unfold Builtin.Dict.pairItems
    refine wpAny_bind (wpAny_typeOf hT ?_)
    rw [if_pos (by decide)]
    refine wpAny_bind (wpAny_seqItems hpo' rfl (wpAny_pure ?_))
    show wpAny _ _ (holding [.int k t, x] (dictSet d (.int k t) x)) _ _ _
    refine wpAny_holding (wpAny_dictSet_pairs (intKind_is _ _ k t) hd' (fun h'' hd'' hs'' => ?_) ?_)
    · refine wpAny_pure ⟨plainId_quiet plain_upd_loop _, ?_⟩
      refine ih (i + 1) { s with heap := h'', toks := tk + 1 } (by omega) hlt ?_ ?_ ?_ ?_ ?_
      · obtain ⟨o, ho, r⟩ := st'.1
        exact ⟨o, (hs''.2 I (Ne.symm hdI)).trans ho, r⟩
      · obtain ⟨o, ho, r⟩ := st'.2
        exact ⟨o, (hs''.2 l (Ne.symm hdl)).trans ho, r⟩
      · exact fun b o h1 h2 e => (hs''.2 b h1).trans (hkk b o h1 h2 e)
      · rw [merged_take_succ [] kvs i (k, x) hkv]
        exact hd''
      · exact hR
    · have := merged_length_le ([] : List (Int × Value)) (kvs.take i)
      rw [List.length_take] at this
      simp only [List.length_nil] at this
      omega
variable {h₀ : Heap} {L : Addr} {m : Str → Option Value} {news : List (Addr × Obj)}
/-- dict of a list of pairs -/
theorem call_dict_pairs {l : Addr} {vs : List Value} {n : Nat} {kvs : List (Int × Value)} {Q : Value → Shared → Prop} (hh : A.handled = none) (F : Fr h₀ L s.heap m) (N : News h₀ L s.heap news) (hbig : sysModules < h₀.objs.size) (hl : (l, listOf vs.toArray n) ∈ news)
    (hp : ∀ (i : Nat) (v : Value), vs[i]? = some v → ∃ (p : Addr) (k : Int) (t : Tok) (x : Value) (c : Nat), v = .ref p ∧ kvs[i]? = some (k, x) ∧ (p, ({ cls := .type "tuple", data := .seq [Value.int k t, x].toArray c } : Obj)) ∈ news)
    (hlen : vs.length = kvs.length) (hsz : vs.length ≤ sizeLine)
    (k : ∀ D h' tk o, Fr h₀ L h' m → News h₀ L h' ((D, o) :: news) → (D == sysModules) = false → o.IsDictOf (PySem.intKind prog w) (merged [] kvs) → (∀ p ∈ news, p.1 < D) → Q (.ref D) { s with heap := h', toks := tk }) :
    wpAny (model prog w) A (call (.type "dict") [.ref l]) Q E s := by
  refine callType_codes (Q₁ := fun obj s₁ => obj = .ref s.heap.objs.size ∧ s₁ = { s with heap := s.heap.push { cls := .type "dict", data := .dict #[] } }) PySem.F.kt_called_dict (PySem.F.kt_typeCall_dict_1 _) PySem.F.entry_dict_init (kt_code_dict_new _ ⟨rfl, rfl⟩) ?_
  rintro obj s₁ ⟨rfl, rfl⟩
  have hnew : (s.heap.push { cls := .type "dict", data := .dict #[] }).DictOf (PySem.intKind prog w) s.heap.objs.size [] := Heap.DictOf.new s.heap
  have hlo := (N _ hl).1
  have hlo' : (s.heap.push { cls := .type "dict", data := .dict #[] }).get? l = some (listOf vs.toArray n) := Heap.get?_push_of_some _ hlo
  have hlt : l < s.heap.objs.size := Heap.lt_size hlo
  refine ⟨hnew.typeIs, PySem.F.args_dict_init_2 _ _, ?_⟩
  unfold Builtin.«dict.__init__»
  refine wpAny_bind ?_
  unfold Builtin.Dict.selfAndRest
  refine wpAny_bind (wpAny_notOrdered_dict hnew.typeIs ?_)
  show wpAny _ _ (pure (s.heap.objs.size, [Value.ref l])) _ _ _
  refine wpAny_pure ?_
  show wpAny _ _ (Builtin.Dict.updateFrom "dict.__init__" s.heap.objs.size (.ref l) [] .none) _ _ _
  unfold Builtin.Dict.updateFrom
  refine wpAny_bind (wpAny_typeOf (T := "list") ⟨_, hlo', rfl⟩ ?_)
  rw [if_pos (by decide)]
  refine wpAny_bind (getAttrQ_miss_list hlo' rfl rfl rfl keys_miss_list (by decide +kernel) hh (fun h1 tk1 hk1 => ?_) (by rw [sizeLine_eq]; decide +kernel))
  rw [if_pos (by rfl)]
  refine wpAny_bind (wpAny_rule ?_)
  have hlo1 := hk1 _ _ hlo'
  refine wpAny_bind (wpAny_pyIter_list (items := vs.toArray) ⟨_, hlo1, rfl, n, rfl⟩ ?_)
  have hD1 : h1.DictOf (PySem.intKind prog w) s.heap.objs.size [] := by
    obtain ⟨o, es, ep, ho, r⟩ := hnew
    exact ⟨o, es, ep, hk1 _ _ ho, r⟩
  have hDlt : s.heap.objs.size < h1.objs.size := by
    obtain ⟨o, es, ep, ho, r⟩ := hD1
    exact Heap.lt_size ho
  refine wpAny_pure ⟨plainId_quiet plain_upd_loop _, ?_⟩
  dsimp only
  refine upd_loop (A := A.in1) (prog := prog) (w := w) (h₁ := h1) (l := l) (vs := vs) (kvs := kvs) hh (Nat.ne_of_lt hDlt) (Nat.ne_of_gt hlt) (Nat.ne_of_lt (Nat.lt_trans hlt hDlt)) (fun i v hv => ?_) hlen hsz _ 0 _ rfl (Nat.zero_le _) ?_ ?_ ?_ ?_ ?_
  · obtain ⟨p, k, t, x, c, e1, e2, e3⟩ := hp i v hv
    have hpo := (N _ e3).1
    have hpl : p < s.heap.objs.size := Heap.lt_size hpo
    exact ⟨p, k, t, x, c, e1, e2, hk1 _ _ (Heap.get?_push_of_some _ hpo), Nat.ne_of_lt hpl, Nat.ne_of_lt (Nat.lt_trans hpl hDlt)⟩
  · exact ⟨_, Heap.get?_push_size _ rfl, rfl, rfl⟩
  · exact ⟨_, Heap.get?_push_of_some _ hlo1, rfl, n, rfl⟩
  · exact fun b o _ _ e => Heap.get?_push_of_some _ e
  · rw [List.take_zero]
    exact hD1.push _
  · refine fun h' tk hk hd => ⟨rfl, ?_⟩
    have hall : ∀ b o, s.heap.get? b = some o → h'.get? b = some o := fun b o e => hk b o (Nat.ne_of_lt (Heap.lt_size e)) (Nat.ne_of_lt (Nat.lt_trans (Heap.lt_size e) hDlt)) (hk1 _ _ (Heap.get?_push_of_some _ e))
    obtain ⟨o', ho', hd'⟩ := Heap.dictOf_iff.mp hd
    have N1 := News.push F N { cls := .type "dict", data := .dict #[] }
    refine k _ h' tk o' (F.keeps hall) (fun p hp' => ?_) (F.notModules hbig) hd' (fun p hp' => Heap.lt_size (N p hp').1)
    rcases List.mem_cons.mp hp' with rfl | hp'
    · exact ⟨ho', (N1 _ (.head _)).2⟩
    · exact ⟨hall _ _ (N p hp').1, (N p hp').2⟩
end
open PySem.Spec PyProof.V PyProof.Rows.LCg
abbrev Led0 := List (Addr × Obj)
/-- where a turn of a comprehension over enumerate ends -/
def EEnd (h₀ : Heap) (L : Addr) (m : Str → Option Value) (s₁ : Shared) (e it C D : Addr) (oe oi oC oD : Obj) (J : Value → Led0 → Prop) (y : Value) (s' : Shared) : Prop :=
  ∃ h' tk nx, s' = { s₁ with heap := h', toks := tk } ∧ Fr h₀ L h' m ∧ News h₀ L h' ((e, oe) :: (it, oi) :: (C, oC) :: (D, oD) :: nx) ∧ (∀ p ∈ nx, p.1 ≠ e ∧ p.1 ≠ it ∧ p.1 ≠ C ∧ p.1 ≠ D) ∧ J y nx
def ETurns (prog : Program) (w : World) (A : Around) (h₀ : Heap) (L : Addr) (m : Str → Option Value) (env : Env) (elt : PySem.Expr) (a b : Str) (scope : Scope) (cl : List (Str × Addr)) (s : Shared) (its : Array Value) (J : Nat → List Value → Led0 → Prop) : Prop :=
  ∀ i x t ys nx e it C D oe oi oC m₂ h tk (E' : Value → Shared → Prop), its[i]? = some x → J i ys nx → NsObj oC m₂ → m₂ a = some (.int (i : Int) t) → m₂ b = some x → Fr h₀ L h m → News h₀ L h ((e, oe) :: (it, oi) :: (C, oC) :: (D, lst ys) :: nx) → (∀ p ∈ nx, p.1 ≠ e ∧ p.1 ≠ it ∧ p.1 ≠ C ∧ p.1 ≠ D) →
    wpAny (model prog w) A (eval elt (compEnvC scope cl C env)) (EEnd h₀ L m { s with heap := h, toks := tk } e it C D oe oi oC (lst ys) (fun y nx' => J (i + 1) (ys ++ [y]) nx')) E' { s with heap := h, toks := tk }
section
variable {prog : Program} {w : World} {A : Around} {E : Value → Shared → Prop} {s : Shared} {h₀ : Heap} {L : Addr} {m : Str → Option Value} {env : Env}
theorem enum_block {elt iter : PySem.Expr} {a b : Str} {pa pb tp : Pos} {kk : Nat} {scope : Scope} {cl : List (Str × Addr)} {pos : Pos} {s₂ : Shared} {e it l : Addr} {its : Array Value} {kz : Nat} {news : Led0} {J : Nat → List Value → Led0 → Prop} {RR : Value → Addr → Result → Shared → Prop}
    (hh : A.handled = none) (hei : e ≠ it) (hsz : its.size ≤ sizeLine) (he : ∃ old, IsEnum s₂.heap e it 0 old) (hit : s₂.heap.IsListIter it l 0) (hJl : ∀ i ys nx, J i ys nx → (l, ({ cls := .type "list", data := .seq its kz } : Obj)) ∈ nx)
    (hcell : ∀ y ∈ scope.names, y.2 ≠ .cell) (hkind : scope.kind = .function) (hxa : scope.names.lookup a = some .local) (hxb : scope.names.lookup b = some .local) (hab : ¬ a = b)
    (F : Fr h₀ L s₂.heap m) (N : News h₀ L s₂.heap news) (heL : e ≠ L) (hiL : it ≠ L) (he₀ : h₀.get? e = none) (hi₀ : h₀.get? it = none) (off : ∀ p ∈ news, p.1 ≠ e ∧ p.1 ≠ it)
    (hJ0 : J 0 [] news) (R : ETurns prog w A h₀ L m env elt a b scope cl s₂ its J)
    (hRR : ∀ D C h tk m' ys nx, Fr h₀ L h m → News h₀ L h ((D, lst ys) :: nx) → (∀ p ∈ nx, p.1 ≠ D) → h.Ns C m' → h₀.get? C = none → C ≠ L → C ≠ D → (∀ p ∈ nx, p.1 ≠ C) → J its.size ys nx → RR (.ref D) C (.ok .next) { s₂ with heap := h, toks := tk }) :
    wpAny (model prog w) A (newList []) (fun acc s₃ => wpAny (model prog w) A (newFunctionEnv scope env.globals cl [] env.qual none .none (some env)) (fun cenv s₄ =>
      codeAny (model prog w) A (.compStart (.ListComp elt [⟨.Tuple [.Name a pa, .Name b pb] kk tp, iter, [], 0⟩] scope pos) 0 (.ref e) acc { cenv with scope := relabel scope env }) (RR acc cenv.locals) s₄) E s₃) E s₂ := by
  refine wpAny_newObj_type (wpAny_newFunctionEnv hcell (by intro y hy; simp at hy) (fun h₁ hns₁ hsb₁ => ?_) hkind)
  dsimp only at hns₁ hsb₁ ⊢
  generalize hH2 : s₂.heap.push { cls := .type "list", dict := none, data := .seq ([] : List Value).toArray } = H2 at hns₁ hsb₁ ⊢
  obtain ⟨D, hDdef⟩ : ∃ D, D = s₂.heap.objs.size := ⟨_, rfl⟩
  obtain ⟨C, hCdef⟩ : ∃ C, C = H2.objs.size := ⟨_, rfl⟩
  rw [← hDdef, ← hCdef]
  rw [← hCdef] at hns₁ hsb₁
  have hC : C = D + 1 := by rw [hCdef, hDdef, ← hH2, Heap.size_push]
  have hlt : ∀ {x : Addr} {o : Obj}, s₂.heap.get? x = some o → x ≠ D ∧ x ≠ C := fun hx => by
    have := Heap.lt_size hx
    rw [← hDdef] at this
    exact ⟨Nat.ne_of_lt this, by rw [hC]; exact Nat.ne_of_lt (Nat.lt_succ_of_lt this)⟩
  have hCD : C ≠ D := by rw [hC]; exact Nat.succ_ne_self _
  have old : ∀ x o, s₂.heap.get? x = some o → h₁.get? x = some o := fun x o q => hsb₁.extBut x o (hlt q).2 (Heap.get?_push_of_some _ (hH2 ▸ Heap.get?_push_of_some _ q))
  have hacc : h₁.get? D = some (lst []) := hsb₁.extBut _ _ (Ne.symm hCD) (Heap.get?_push_of_some _ (hH2 ▸ hDdef ▸ Heap.get?_push_size _ rfl))
  have fresh₀ : ∀ x, s₂.heap.objs.size ≤ x → h₀.get? x = none := fun x hx => by
    cases q : h₀.get? x with
    | none => rfl
    | some o' => exact absurd (Heap.lt_size (F.keep x o' q)) (Nat.not_lt.mpr hx)
  have hD₀ : h₀.get? D = none := fresh₀ _ (Nat.le_of_eq hDdef.symm)
  have hC₀ : h₀.get? C = none := fresh₀ _ (by rw [hC, hDdef]; exact Nat.le_succ _)
  have hLD : L ≠ D ∧ L ≠ C := by
    have := F.ns.lt
    rw [← hDdef] at this
    exact ⟨Nat.ne_of_lt this, by rw [hC]; exact Nat.ne_of_lt (Nat.lt_succ_of_lt this)⟩
  obtain ⟨old0, he⟩ := he
  have heD := hlt he
  have hiD : it ≠ D ∧ it ≠ C := by obtain ⟨_, q, _⟩ := hit; exact hlt q
  have W := WalksT.enumerate (prog := prog) (w := w) hh e it l hei
  have loop : codeAny (model prog w) A (.compLoop (.ListComp elt [⟨.Tuple [.Name a pa, .Name b pb] kk tp, iter, [], 0⟩] scope pos) 0 (.ref e) (.ref D) (compEnvC scope cl C env)) (RR (.ref D) C) { s₂ with heap := h₁, toks := s₂.toks + ([] : List (Str × Value)).length } := by
    refine kcp_loop
      (fun k s' => ∃ h' tk i ys m' nx, s' = { s₂ with heap := h', toks := tk } ∧ i ≤ its.size ∧ k = its.size + 1 - i ∧ ys.length = i ∧ (∃ old, IsEnum h' e it (i : Int) old) ∧ h'.IsListIter it l i ∧ Fr h₀ L h' m ∧ h'.Ns C m' ∧
        News h₀ L h' ((D, lst ys) :: nx) ∧ (∀ p ∈ nx, p.1 ≠ e ∧ p.1 ≠ it ∧ p.1 ≠ C ∧ p.1 ≠ D) ∧ J i ys nx) ?_ (its.size + 1)
      ⟨h₁, _, 0, [], _, news, rfl, Nat.zero_le _, rfl, rfl, ⟨old0, old _ _ he⟩, hit.at (fun o q => old _ o q), F.keeps old, hns₁, fun p hp => ?_, fun p hp => ?_, hJ0⟩
    · rintro k s' ⟨h', tk, i, ys, m', nx, rfl, hi, rfl, hyl, he', hit', F', hn', N', off', hJ⟩
      have hlm := hJl _ _ _ hJ
      have hl' : h'.IsList l its := ⟨_, (N' _ (.tail _ hlm)).1, rfl, kz, rfl⟩
      have hle := (off' _ hlm).1
      have hli := (off' _ hlm).2.1
      have W := W hle hli its
      by_cases hlt : i < its.size
      · refine W.item i _ _ _ hlt ⟨he', hit', hl'⟩ fun T vals h₂ tk₂ hPt hTs hT hMd hk₂ => ?_
        refine W.go [.Name a pa, .Name b pb] kk tp i T _ _ _ hMd fun h₃ hst₃ hk₃ => ?_
        obtain ⟨t, x, hx, rfl⟩ := hPt
        have hTw := W.apart _ _ _ hMd
        have hT₃ : h₃.IsTuple T #[.int (i : Int) t, x] := hT.at fun o q => hk₃ _ o hTw q
        have nw : ∀ {c : Addr}, c ≠ e → c ≠ it → c ∉ [e, it] := fun h1 h2 hm => by
          rcases List.mem_cons.mp hm with rfl | hm
          · exact h1 rfl
          · exact h2 (List.mem_singleton.mp hm)
        have up₃ : ∀ c o, c ≠ e → c ≠ it → h'.get? c = some o → h₃.get? c = some o := fun c o h1 h2 q => hk₃ c o (nw h1 h2) (hk₂ c o (nw h1 h2) q)
        refine kcp_assign (env := compEnvC scope cl C env) hh hT₃ (lookup_relabel_local hxa) (lookup_relabel_local hxb) (by simp [compEnvC, relabel, hkind]) (hn'.at' fun o q => up₃ _ o (Ne.symm heD.2) (Ne.symm hiD.2) q) fun h₄ tk₄ hn₄ hs₄ => ?_
        have up : ∀ c o, c ≠ e → c ≠ it → c ≠ C → h'.get? c = some o → h₄.get? c = some o := fun c o h1 h2 h3 q => hs₄ c o h3 (up₃ c o h1 h2 q)
        obtain ⟨⟨old₃, he₃⟩, hit₃, hl₃⟩ := hst₃
        obtain ⟨oC, heC, hoC⟩ := ns_obj hn₄
        obtain ⟨oi, hoi, hoic⟩ := hit₃
        have he₄ := hs₄ e _ heD.2 he₃
        have hoi₄ := hs₄ it _ hiD.2 hoi
        have F₄ : Fr h₀ L h₄ m := ⟨F'.ns.at' fun o q => up _ o (Ne.symm heL) (Ne.symm hiL) hLD.2 q, fun c o q => up c o (fun z => by rw [z, he₀] at q; cases q) (fun z => by rw [z, hi₀] at q; cases q) (fun z => by rw [z, hC₀] at q; cases q) (F'.keep c o q), F'.above⟩
        have N₄ : News h₀ L h₄ ((e, _) :: (it, oi) :: (C, oC) :: (D, lst ys) :: nx) := fun q hq => by
          rcases List.mem_cons.mp hq with rfl | hq
          · exact ⟨he₄, heL, he₀⟩
          · rcases List.mem_cons.mp hq with rfl | hq
            · exact ⟨hoi₄, hiL, hi₀⟩
            · rcases List.mem_cons.mp hq with rfl | hq
              · exact ⟨heC, Ne.symm hLD.2, hC₀⟩
              · have z := N' q hq
                rcases List.mem_cons.mp hq with rfl | hq
                · exact ⟨up _ _ (Ne.symm heD.1) (Ne.symm hiD.1) (Ne.symm hCD) z.1, z.2⟩
                · have z2 := off' q hq
                  exact ⟨up _ _ z2.1 z2.2.1 z2.2.2.1 z.1, z.2⟩
        refine wpAny_mono (R i x t ys nx e it C D _ oi oC _ h₄ _ _ hx hJ hoC (by simp [hab]) (by simp) F₄ N₄ off') (fun y s₅ h₅ => ?_) fun _ _ z => z
        obtain ⟨h₅, tk₅, nx₅, rfl, F₅, N₅, off₅, hJ₅⟩ := h₅
        have ze := (N₅ _ List.mem_cons_self).1
        have zi := (N₅ _ (List.mem_cons_of_mem _ List.mem_cons_self)).1
        have zC := (N₅ _ (List.mem_cons_of_mem _ (List.mem_cons_of_mem _ List.mem_cons_self))).1
        have zD := (N₅ (D, lst ys) (List.mem_cons_of_mem _ (List.mem_cons_of_mem _ (List.mem_cons_of_mem _ List.mem_cons_self)))).1
        have N₅' : News h₀ L h₅ nx₅ := fun q hq => N₅ q (List.mem_cons_of_mem _ (List.mem_cons_of_mem _ (List.mem_cons_of_mem _ (List.mem_cons_of_mem _ hq))))
        refine append_at (hsz := by show ys.toArray.size ≤ sizeLine; rw [List.size_toArray, hyl]; exact Nat.le_trans hi hsz) zD fun h₆ hs₆ hD₆ => ?_
        refine ⟨its.size + 1 - (i + 1), by omega, h₆, tk₅, i + 1, ys ++ [y], _, nx₅, rfl, hlt, rfl, by rw [List.length_append, List.length_singleton, hyl], ⟨_, hs₆.extBut e _ heD.1 ze⟩, ⟨oi, hs₆.extBut it _ hiD.1 zi, hoic⟩, F₅.change hs₆ (Ne.symm hLD.1) hD₀,
          (hoC.ns zC).sameBut hs₆ hCD, fun q hq => ?_, off₅, hJ₅⟩
        rcases List.mem_cons.mp hq with rfl | hq
        · exact ⟨hD₆.trans (congrArg some (lst_snoc ys y)), Ne.symm hLD.1, hD₀⟩
        · exact ⟨hs₆.extBut _ _ (off₅ q hq).2.2.2 (N₅' q hq).1, (N₅' q hq).2⟩
      · have hin : i = its.size := Nat.le_antisymm hi (Nat.not_lt.mp hlt)
        subst hin
        refine W.done _ _ _ ⟨he', hit', hl'⟩ fun h₂ tk₂ hk₂ => ?_
        have nw : ∀ {c : Addr}, c ≠ e → c ≠ it → c ∉ [e, it] := fun h1 h2 hm => by
          rcases List.mem_cons.mp hm with rfl | hm
          · exact h1 rfl
          · exact h2 (List.mem_singleton.mp hm)
        refine hRR D C h₂ tk₂ _ ys nx ⟨F'.ns.at' fun o q => hk₂ _ o (nw (Ne.symm heL) (Ne.symm hiL)) q, fun c o q => hk₂ c o (nw (fun z => by rw [z, he₀] at q; cases q) (fun z => by rw [z, hi₀] at q; cases q)) (F'.keep c o q), F'.above⟩ (fun q hq => ?_) (fun p hp => (off' p hp).2.2.2) (hn'.at' fun o q => hk₂ _ o (nw (Ne.symm heD.2) (Ne.symm hiD.2)) q) hC₀ (Ne.symm hLD.2) hCD (fun p hp => (off' p hp).2.2.1) hJ
        have z := N' q hq
        rcases List.mem_cons.mp hq with rfl | hq
        · exact ⟨hk₂ _ _ (nw (Ne.symm heD.1) (Ne.symm hiD.1)) z.1, z.2⟩
        · exact ⟨hk₂ _ _ (nw (off' q hq).1 (off' q hq).2.1) z.1, z.2⟩
    · rcases List.mem_cons.mp hp with rfl | hp
      · exact ⟨hacc, Ne.symm hLD.1, hD₀⟩
      · exact ⟨old _ _ (N p hp).1, (N p hp).2⟩
    · have z := hlt (N p hp).1
      exact ⟨(off p hp).1, (off p hp).2, z.2, z.1⟩
  exact codeAny_compStart_list loop (wpAny_pyIter_enum (old _ _ he) loop)
/-- the source of a pair comprehension is enumerate of a list of the ledger; mF tells the locals behind it, Q' what is asked there -/
def EnumSrc (prog : Program) (w : World) (A : Around) (h₀ : Heap) (L : Addr) (m : Str → Option Value) (env : Env) (elt : PySem.Expr) (a b : Str) (scope : Scope) (cl : List (Str × Addr)) (mF : Addr → Str → Option Value) (Q' : Addr → Shared → Prop) (xv : Value) (s₁ : Shared) : Prop :=
  ∃ (e it l : Addr) (its : Array Value) (kz : Nat) (news : Led0) (J : Nat → List Value → Led0 → Prop), xv = .ref e ∧ A.handled = none ∧ e ≠ it ∧ its.size ≤ sizeLine ∧ (∃ old, IsEnum s₁.heap e it 0 old) ∧ s₁.heap.IsListIter it l 0 ∧ (∀ i ys nx, J i ys nx → (l, ({ cls := .type "list", data := .seq its kz } : Obj)) ∈ nx) ∧
    Fr h₀ L s₁.heap m ∧ News h₀ L s₁.heap news ∧ e ≠ L ∧ it ≠ L ∧ h₀.get? e = none ∧ h₀.get? it = none ∧ (∀ p ∈ news, p.1 ≠ e ∧ p.1 ≠ it) ∧ J 0 [] news ∧ ETurns prog w A h₀ L m env elt a b scope cl s₁ its J ∧
    ∀ D h tk ys nx, Fr h₀ L h (mF D) → News h₀ L h ((D, lst ys) :: nx) → (∀ p ∈ nx, p.1 ≠ D) → J its.size ys nx → Q' D { s₁ with heap := h, toks := tk }
theorem enum_assign {elt iter : PySem.Expr} {a b y : Str} {pa pb tp py : Pos} {kk : Nat} {scope : Scope} {cl : List (Str × Addr)} {pos spos : Pos} {Q : Flow → Shared → Prop} (_F₀ : Fr h₀ L s.heap m) (hLe : env.locals = L)
    (hsw : swapsWith (.ListComp elt [⟨.Tuple [.Name a pa, .Name b pb] kk tp, iter, [], 0⟩] scope pos) (some (.Name y py)) spos.line env = pure true)
    (hclos : closureFor scope env = pure cl) (hcell : ∀ y ∈ scope.names, y.2 ≠ .cell) (hkind : scope.kind = .function)
    (hnames : ∀ y ∈ scope.names, y.2 = .local → scope.names.lookup y.1 = some .local) (hxa : scope.names.lookup a = some .local) (hxb : scope.names.lookup b = some .local) (hab : ¬ a = b)
    (hy : env.kindOf y = some .local) (hp : (env.scope.kind == .class || (env.scope.kind == .module && env.locals != env.globals)) = false)
    (h : wpAny (model prog w) A (eval iter env) (EnumSrc prog w A h₀ L m env elt a b scope cl (fun D z => if z = y then some (.ref D) else m z) (fun _ s' => Q .next s')) E s)
    (hs : ∀ x, foldedSetIterable iter env x = pure x := by intro _; rfl) :
    wpAny (model prog w) A (exec (.Assign [.Name y py] (.ListComp elt [⟨.Tuple [.Name a pa, .Name b pb] kk tp, iter, [], 0⟩] scope pos) spos) env) Q E s := by
  subst hLe
  rw [exec_Assign_Name_used _ _ _ _ hsw]
  refine wpAny_bind (wpAny_standAt (wpAny_bind ?_))
  show wpAny _ A (do let _ ← comprehension (.ListComp elt [⟨.Tuple [.Name a pa, .Name b pb] kk tp, iter, [], 0⟩] scope pos) scope env _ (newList []) false (eval iter env) (some (assign (.Name y py) env))) _ _ s
  refine wpAny_bind (wpAny_mono (wpAny_comprehension_free (use := some (assign (.Name y py) env)) (Q := fun _ s' => Q .next s') rfl hs hclos hkind hnames
    (wpAny_mono h (fun xv s₁ h₁ => ?_) fun _ _ z => z)) (fun _ s' hq => wpAny_pure (wpAny_pure hq)) fun _ _ z => z)
  obtain ⟨e, it, l, its, kz, news, J, rfl, hh, hei, hsz, he, hit, hJl, F, N, heL, hiL, he₀, hi₀, off, hJ0, R, fin⟩ := h₁
  obtain ⟨old, he1⟩ := he
  refine wpAny_pyIter_enum he1 ?_
  refine enum_block hh hei hsz ⟨old, he1⟩ hit hJl hcell hkind hxa hxb hab F N heL hiL he₀ hi₀ off hJ0 R ?_
  intro D C h tk m' ys nx F' N' offD hn hC₀ hCL hCD offC hJ
  show wpAny _ A (assign (.Name y py) env (.ref D)) _ _ _
  refine wpAny_assign_Name (wpAny_storeName_local hy F'.ns (fun h₂ hn₂ hs₂ => ?_) hp)
  have hL₀ : h₀.get? env.locals = none := Heap.get?_none_of_le F'.above
  have F₂ : Fr h₀ env.locals h₂ (fun z => if z = y then some (.ref D) else m z) := ⟨hn₂, fun b o q => hs₂.extBut b o (fun z => by rw [z, hL₀] at q; cases q) (F'.keep b o q), F'.above⟩
  refine ⟨m', hn.sameBut hs₂ hCL, fun h'' hs'' => fin D h'' _ ys nx (F₂.change hs'' hCL hC₀) (fun p hp => ?_) offD hJ⟩
  have z : h₂.get? p.1 = some p.2 := hs₂.extBut _ _ (N' p hp).2.1 (N' p hp).1
  refine ⟨hs''.extBut _ _ ?_ z, (N' p hp).2⟩
  rcases List.mem_cons.mp hp with rfl | hp
  · exact Ne.symm hCD
  · exact offC p hp
theorem enum_call {l : Addr} {its : Array Value} {kz : Nat} {news : Led0} {elt : PySem.Expr} {a b : Str} {scope : Scope} {cl : List (Str × Addr)} {mF : Addr → Str → Option Value} {Q' : Addr → Shared → Prop} (J : Nat → List Value → Led0 → Prop) (hh : A.handled = none) (F : Fr h₀ L s.heap m) (N : News h₀ L s.heap news) (hm : (l, ({ cls := .type "list", data := .seq its kz } : Obj)) ∈ news) (hsz : its.size ≤ sizeLine)
    (hJl : ∀ i ys nx, J i ys nx → (l, ({ cls := .type "list", data := .seq its kz } : Obj)) ∈ nx) (hJ0 : J 0 [] news) (R : ∀ g, ETurns prog w A h₀ L m env elt a b scope cl { s with heap := g } its J)
    (fin : ∀ D h tk ys nx, Fr h₀ L h (mF D) → News h₀ L h ((D, lst ys) :: nx) → (∀ p ∈ nx, p.1 ≠ D) → J its.size ys nx → Q' D { s with heap := h, toks := tk }) :
    wpAny (model prog w) A (call (.type "enumerate") [.ref l]) (EnumSrc prog w A h₀ L m env elt a b scope cl mF Q') E s := by
  have hlt := F.ns.lt
  have fresh₀ : ∀ x, s.heap.objs.size ≤ x → h₀.get? x = none := fun x hx => by
    cases q : h₀.get? x with
    | none => rfl
    | some o' => exact absurd (Heap.lt_size (F.keep x o' q)) (Nat.not_lt.mpr hx)
  refine call_enumerate_list ⟨_, (N _ hm).1, rfl, kz, rfl⟩ fun h' hE hI hs hk => ?_
  refine ⟨_, _, l, its, kz, news, J, rfl, hh, Nat.succ_ne_self _, hsz, ⟨_, hE⟩, hI, hJl, F.keeps hk, fun p hp => ⟨hk _ _ (N p hp).1, (N p hp).2⟩, ?_, ?_, fresh₀ _ (Nat.le_succ _), fresh₀ _ (Nat.le_refl _), fun p hp => ?_, hJ0, R h', fin⟩
  · exact Nat.ne_of_gt (Nat.lt_succ_of_lt hlt)
  · exact Nat.ne_of_gt hlt
  · have := Heap.lt_size (N p hp).1
    exact ⟨Nat.ne_of_lt (Nat.lt_succ_of_lt this), Nat.ne_of_lt this⟩
end
abbrev Led := List (Addr × Obj)
/-- a call's contract: from any caller, with this ledger, it hands back what Post says -/
def Con (w : World) (mean : ExcName → Option Value) (mg mb : Str → Option Value) (f : Addr) (dn cn : Nat) (vs : List Value) (news : Led) (Post : (Value → Led → Prop) → Prop) : Prop :=
  ∀ (dp un : Nat) (gd : Option (List Code)) (nm : Str) (cs : Scope) (a : Addr) (ccd : Value) (cl : List (Str × Addr)) (outer : List Env) (A₀ : Around) (base h₀ : Heap) (L : Addr) (m : Str → Option Value) (s : Shared) (Q E : Value → Shared → Prop),
    Below A₀ base outer h₀ → Fr h₀ L s.heap m → (hd.heap_39 w.params).In h₀ → News h₀ L s.heap news → Top hd.view_39 (looseW hd.view_39 hd.loose) mean mg mb h₀ → cs.kind = .function → dp + dn < recursionLimit → un + cn < cLine →
    Post (fun v news' => ∀ h' tk', Fr h₀ L h' m → News h₀ L h' news' → Q v { s with heap := h', toks := tk' }) →
    wpAny (model PR w) (ktrTop dp un gd nm cs L a ccd cl outer) (call (.ref f) vs) Q E s

theorem con_use {w : World} {mean : ExcName → Option Value} {mg mb : Str → Option Value} {f : Addr} {dn cn : Nat} {vs : List Value} {news : Led} {Post : (Value → Led → Prop) → Prop} {dp un : Nat} {gd : Option (List Code)} {nm : Str} {cs : Scope} {a : Addr} {ccd : Value} {cl : List (Str × Addr)} {outer : List Env} {A₀ : Around} {base h₀ : Heap} {L : Addr} {m : Str → Option Value} {s : Shared} {Q E : Value → Shared → Prop}
    (B : Below A₀ base outer h₀) (F : Fr h₀ L s.heap m) (X : (hd.heap_39 w.params).In h₀) (N : News h₀ L s.heap news) (T : Top hd.view_39 (looseW hd.view_39 hd.loose) mean mg mb h₀) (hk : cs.kind = .function) (hd : dp + dn < recursionLimit) (hu : un + cn < cLine)
    (C : Con w mean mg mb f dn cn vs news Post)
    (ret : Post fun v news' => ∀ h' tk', Fr h₀ L h' m → News h₀ L h' news' → Q v { s with heap := h', toks := tk' }) :
    wpAny (model PR w) (ktrTop dp un gd nm cs L a ccd cl outer) (call (.ref f) vs) Q E s := C _ _ _ _ _ _ _ _ _ _ _ _ _ _ _ _ _ B F X N T hk hd hu ret

theorem News.sub {h₀ h : Heap} {L : Addr} {l l' : Led} (N : News h₀ L h l) (s : ∀ p ∈ l', p ∈ l) : News h₀ L h l' := fun p hp => N p (s p hp)
inductive Pick (d : Addr) (o : Obj) : Led → Led → Prop
  | head {r : Led} : Pick d o ((d, o) :: r) r
  | tail {p : Addr × Obj} {l r : Led} : Pick d o l r → Pick d o (p :: l) (p :: r)
theorem Pick.sub {d : Addr} {o : Obj} {l r : Led} (h : Pick d o l r) : ∀ p ∈ (d, o) :: r, p ∈ l := by
  induction h with
  | head => exact fun _ h => h
  | tail _ ih =>
    intro q hq
    rcases List.mem_cons.mp hq with rfl | hq
    · exact .tail _ (ih _ (.head _))
    · rcases List.mem_cons.mp hq with rfl | hq
      · exact .head _
      · exact .tail _ (ih _ (.tail _ hq))
theorem pick1 {d : Addr} {o : Obj} {h₀ h : Heap} {L : Addr} {l r : Led} (N : News h₀ L h l) (p : Pick d o l r) : News h₀ L h ((d, o) :: r) := fun q hq => N q (p.sub q hq)
theorem pick2 {d e : Addr} {o o' : Obj} {h₀ h : Heap} {L : Addr} {l r r' : Led} (N : News h₀ L h l) (p : Pick d o l r) (q : Pick e o' r r') : News h₀ L h ((d, o) :: (e, o') :: r') := fun z hz => by
  rcases List.mem_cons.mp hz with rfl | hz
  · exact N _ (p.sub _ (.head _))
  · exact N _ (p.sub _ (.tail _ (q.sub _ hz)))
/-- two distinct objects have distinct addresses -/
theorem news_ne {h₀ h : Heap} {L a b : Addr} {o o' : Obj} {l : Led} (N : News h₀ L h l) (ha : (a, o) ∈ l) (hb : (b, o') ∈ l) (hne : o ≠ o') : a ≠ b := by
  rintro rfl
  have h1 := (N _ ha).1
  have h2 := (N _ hb).1
  exact hne (Option.some.inj (h1.symm.trans h2))
theorem isl {h₀ h : Heap} {L a : Addr} {vs : List Value} {n : Nat} {l : Led} (N : News h₀ L h l) (hm : (a, listOf vs.toArray n) ∈ l) : h.IsList a vs.toArray := ⟨_, (N _ hm).1, rfl, n, rfl⟩
theorem eq_nilK {prog : Program} {w : World} {A : Around} {E : Value → Shared → Prop} {s : Shared} {a b : Addr} {vs : List Value} {ns : List Int} {Q : Value → Shared → Prop} (hl : s.heap.IsList a vs.toArray) (hi : IntsAre vs ns) (hl' : s.heap.IsList b ([] : List Value).toArray) (hu : A.units + 64 < cLine)
    (h : Q (.bool (decide (ns.length = 0))) s) : wpAny (model prog w) A (compareOp .Eq (.ref a) (.ref b)) Q E s :=
  eq_intsK hl hi hl' IntsAre.nil hu (by rw [show decide (ns = []) = decide (ns.length = 0) from by simp]; exact h)
theorem pow_20 {prog : Program} {w : World} {A : Around} {E : Value → Shared → Prop} {s : Shared} {at' : Int} {k : Nat} {t u : Tok} {Q : Value → Shared → Prop} (h0 : 0 ≤ at') (h1 : at' ≤ 9)
    (h : ∀ p : Int, 0 < p → p ≤ 512000000000 → Q (.int p s.toks) { s with toks := s.toks + 1 }) : wpAny (model prog w) A (binaryOp .Pow (.int 20 t) (.int (at'.fdiv (k : Int)) u)) Q E s := by
  have e0 : 0 ≤ at'.fdiv (k : Int) := Int.fdiv_nonneg h0 (Int.natCast_nonneg k)
  have e1 : at'.fdiv (k : Int) ≤ 9 := by
    rw [Int.fdiv_eq_ediv_of_nonneg _ (Int.natCast_nonneg k)]
    exact Int.le_trans (Int.ediv_le_self _ h0) h1
  refine pow_int_small e0 (by omega) (by decide) (h _ (Int.pow_pos (by decide)) ?_)
  have e2 : (at'.fdiv (k : Int)).toNat ≤ 9 := by omega
  generalize (at'.fdiv (k : Int)).toNat = z at e2
  have : ∀ z : Fin 10, (20 : Int) ^ z.val ≤ 512000000000 := by decide
  exact this ⟨z, by omega⟩
theorem fmod_bd (a : Int) {b : Int} (h : 0 < b) : 0 ≤ a.fmod b ∧ a.fmod b < b := ⟨Int.fmod_nonneg_of_pos a h, Int.fmod_lt_of_pos a h⟩
theorem fdiv_pos {prog : Program} {w : World} {A : Around} {E : Value → Shared → Prop} {s : Shared} {a b : Int} {t u : Tok} {Q : Value → Shared → Prop} (h0 : 0 < b) (h1 : b ≤ 512000000000)
    (h : Q (.int (a.fdiv b) s.toks) { s with toks := s.toks + 1 }) : wpAny (model prog w) A (binaryOp .FloorDiv (.int a t) (.int b u)) Q E s := by
  refine floordiv_int (by omega) h (Or.inl (PyProof.noPylong_of_log2 ?_))
  have h2 : b.natAbs < 2 ^ 40 := by omega
  by_cases h3 : b.natAbs = 0
  · rw [h3]; decide +kernel
  · exact Nat.lt_trans ((Nat.log2_lt h3).mpr h2) (by decide)
theorem lt_at {d : Addr} {l : Led} (h : AllLt d l) : ∀ p ∈ l, p.1 < d := kst_ltOf h
theorem lt_ne {d : Addr} {l : Led} (h : AllLt d l) : ∀ p ∈ l, p.1 ≠ d := fun p hp => Nat.ne_of_lt (kst_ltOf h p hp)
theorem off1_ne {D : Addr} : ∀ {l : Led}, LCg.Off1 D l → ∀ p ∈ l, p.1 ≠ D
  | [], _, _, hp => nomatch hp
  | _ :: _, x, p, hp => by
    rcases List.mem_cons.mp hp with rfl | hp
    · exact x.1
    · exact off1_ne x.2 p hp
theorem off1_of {D : Addr} : ∀ {l : Led}, (∀ p ∈ l, p.1 ≠ D) → LCg.Off1 D l
  | [], _ => trivial
  | _ :: _, h => ⟨h _ (.head _), off1_of fun p hp => h p (.tail _ hp)⟩
theorem ne_all {x D : Addr} {o : Obj} {l : Led} (h : ∀ p ∈ l, p.1 ≠ D) (hm : (x, o) ∈ l) : x ≠ D := h _ hm
theorem sub_all {D : Addr} {l l' : Led} (h : ∀ p ∈ l, p.1 ≠ D) (s : ∀ p ∈ l', p ∈ l) : ∀ p ∈ l', p.1 ≠ D := fun p hp => h p (s p hp)
theorem off3a {x I C D : Addr} {o : Obj} {l : Led} (h : LCg.Off3 I C D l) (hm : (x, o) ∈ l) : x ≠ I := (h.mem _ hm).1
theorem off3b {x I C D : Addr} {o : Obj} {l : Led} (h : LCg.Off3 I C D l) (hm : (x, o) ∈ l) : x ≠ C := (h.mem _ hm).2.1
theorem off3c {x I C D : Addr} {o : Obj} {l : Led} (h : LCg.Off3 I C D l) (hm : (x, o) ∈ l) : x ≠ D := (h.mem _ hm).2.2
theorem off3_sub {I C D : Addr} {l l' : Led} (h : LCg.Off3 I C D l) (s : ∀ p ∈ l', p ∈ l) : LCg.Off3 I C D l' := LCg.Off3.of fun p hp => h.mem p (s p hp)
theorem ltA_ne {d : Addr} {l : Led} (h : ∀ p ∈ l, p.1 < d) : ∀ p ∈ l, p.1 ≠ d := fun p hp => Nat.ne_of_lt (h p hp)
theorem lt2_ne {d x : Nat} {l : Led} (h2 : d < x) (h : ∀ p ∈ l, p.1 < d) : ∀ p ∈ l, p.1 ≠ x := fun p hp => Nat.ne_of_lt (Nat.lt_trans (h p hp) h2)
theorem lt2_neA {d x : Nat} {l : Led} (h2 : d < x) (h : AllLt d l) : ∀ p ∈ l, p.1 ≠ x := lt2_ne h2 (kst_ltOf h)
theorem con_use2 {w : World} {mean : ExcName → Option Value} {mg mb : Str → Option Value} {f : Addr} {dn cn : Nat} {vs : List Value} {l r r' : Led} {d e : Addr} {o o' : Obj} {Post : (Value → Led → Prop) → Prop} {dp un : Nat} {gd : Option (List Code)} {nm : Str} {cs : Scope} {a : Addr} {ccd : Value} {cl : List (Str × Addr)} {outer : List Env} {A₀ : Around} {base h₀ : Heap} {L : Addr} {m : Str → Option Value} {s : Shared} {Q E : Value → Shared → Prop}
    (B : Below A₀ base outer h₀) (F : Fr h₀ L s.heap m) (X : (hd.heap_39 w.params).In h₀) (N : News h₀ L s.heap l) (T : Top hd.view_39 (looseW hd.view_39 hd.loose) mean mg mb h₀) (hk : cs.kind = .function) (hd : dp + dn < recursionLimit) (hu : un + cn < cLine)
    (p1 : Pick d o l r) (p2 : Pick e o' r r') (C : Con w mean mg mb f dn cn vs ((d, o) :: (e, o') :: r') Post)
    (ret : Post fun v news' => ∀ h' tk', Fr h₀ L h' m → News h₀ L h' news' → Q v { s with heap := h', toks := tk' }) :
    wpAny (model PR w) (ktrTop dp un gd nm cs L a ccd cl outer) (call (.ref f) vs) Q E s := C _ _ _ _ _ _ _ _ _ _ _ _ _ _ _ _ _ B F X (pick2 N p1 p2) T hk hd hu ret
theorem con_use1 {w : World} {mean : ExcName → Option Value} {mg mb : Str → Option Value} {f : Addr} {dn cn : Nat} {vs : List Value} {l r : Led} {d : Addr} {o : Obj} {Post : (Value → Led → Prop) → Prop} {dp un : Nat} {gd : Option (List Code)} {nm : Str} {cs : Scope} {a : Addr} {ccd : Value} {cl : List (Str × Addr)} {outer : List Env} {A₀ : Around} {base h₀ : Heap} {L : Addr} {m : Str → Option Value} {s : Shared} {Q E : Value → Shared → Prop}
    (B : Below A₀ base outer h₀) (F : Fr h₀ L s.heap m) (X : (hd.heap_39 w.params).In h₀) (N : News h₀ L s.heap l) (T : Top hd.view_39 (looseW hd.view_39 hd.loose) mean mg mb h₀) (hk : cs.kind = .function) (hd : dp + dn < recursionLimit) (hu : un + cn < cLine)
    (p1 : Pick d o l r) (C : Con w mean mg mb f dn cn vs ((d, o) :: r) Post)
    (ret : Post fun v news' => ∀ h' tk', Fr h₀ L h' m → News h₀ L h' news' → Q v { s with heap := h', toks := tk' }) :
    wpAny (model PR w) (ktrTop dp un gd nm cs L a ccd cl outer) (call (.ref f) vs) Q E s := C _ _ _ _ _ _ _ _ _ _ _ _ _ _ _ _ _ B F X (pick1 N p1) T hk hd hu ret
theorem castv {Q : Value → Shared → Prop} {v v' : Value} {s : Shared} (e : v' = v) (h : Q v s) : Q v' s := e ▸ h
theorem rm1 {R x : Nat} (h : x + 0 + 0 < R) : x < R := h
theorem rmD {R a b : Nat} {A : Around} {env : Env} (h : A.depth + (1 + a) + b < R) : (A.deeper env).depth + a + b < R := by show A.depth + 1 + a + b < R; omega
theorem rmM {R a b : Nat} {A : Around} {C : Addr} {vals : List Value} (h : A.depth + (1 + a) + b < R) : (A.under (.builtin "type.__call__" ⟨.ref C :: vals, []⟩)).depth + a + b < R := by show A.depth + 1 + a + b < R; omega
theorem umD {R a b : Nat} {A : Around} {env : Env} (h : A.units + (3 + a) + b < R) : (A.deeper env).units + a + b < R := by show A.units + 3 + a + b < R; omega
theorem umM {R a b : Nat} {A : Around} {C : Addr} {vals : List Value} (h : A.units + (1 + a) + b < R) : (A.under (.builtin "type.__call__" ⟨.ref C :: vals, []⟩)).units + a + b < R := by show A.units + 1 + a + b < R; omega
theorem rmB {R d k a b : Nat} (h : d + k < R) (e : Nat.ble (a + b) k = true) : d + a + b < R := by have := Nat.le_of_ble_eq_true e; omega
theorem rmW {R d dn k a b : Nat} (h : d + (dn + k) < R) (e : Nat.ble (a + b) k = true) : d + a + b < R := by have := Nat.le_of_ble_eq_true e; omega
theorem rmV {R d dn k a c : Nat} (h : d + (dn + k) < R) (e : Nat.ble (a + c) k = true) : d + a + (dn + c) < R := by have := Nat.le_of_ble_eq_true e; omega
theorem rmN {R d dn k a : Nat} (h : d + (dn + k) < R) (e : Nat.ble a k = true) : d + a + dn < R := by have := Nat.le_of_ble_eq_true e; omega
/-- the values of plain local names -/
def nmAll (m : Str → Option Value) (k : Str → Option NameKind) : List Expr → Option (List Value)
  | [] => some []
  | .Name x _ :: r => match nmAll m k r with
    | some vs => match m x with
      | some v => match k x with
        | some .local => match x == ("__debug__" : Str) with
          | false => some (v :: vs)
          | true => none
        | _ => none
      | none => none
    | none => none
  | _ => none
theorem args_names {M : Model} {A : Around} {E : Value → Shared → Prop} {s : Shared} {env : Env} {h₀ : Heap} {m : Str → Option Value} {pos : Pos} (hk : env.scope.kind = .function) (F : Fr h₀ env.locals s.heap m) :
    ∀ {elts : List Expr} {vs : List Value} {Q : List Value → Shared → Prop}, nmAll m env.kindOf elts = some vs → Q vs s → wpAny M A (spliced (backTo pos (starEach elts env))) Q E s
  | [], vs, Q, e, h => by
    cases e
    exact args_nil h
  | e :: r, vs, Q, he, h => by
    cases e
    case Name x p =>
      simp only [nmAll] at he
      cases h1 : nmAll m env.kindOf r with
      | none => rw [h1] at he; cases he
      | some vs' =>
        cases h2 : m x with
        | none => rw [h1, h2] at he; cases he
        | some v =>
          rw [h1, h2] at he
          cases h4 : (x == ("__debug__" : Str)) with
          | true => rw [h4] at he; dsimp only at he; split at he <;> cases he
          | false =>
            rw [h4] at he
            dsimp only at he
            split at he
            · rename_i h3
              cases he
              exact args_cons (wpAny_Name (wpAny_loadName_local hk h3 F.ns h2 (args_names hk F h1 h)) h4)
            · cases he
    all_goals exact absurd he (by simp [nmAll])
def Held (P : Prop) : Prop := P
theorem held {P : Prop} (h : Held P) : P := h
theorem unheld {P : Prop} (h : P) : Held P := h
def PassMark : Prop := True
theorem passMark : PassMark := trivial
local macro_rules | `(tactic| walk_at "HOLD") => `(tactic| fin_once $(Lean.mkIdent `hold) (refine held ?_))
local macro_rules | `(tactic| walk_at "CUT") => `(tactic| ((repeat (rename (_ : Prop) => X; revert X)); (repeat (rename (_ : Type) => X; revert X))))
local macro_rules | `(tactic| walk_at "PICK") => `(tactic| first | exact Pick.head | exact Pick.tail (Pick.head) | exact Pick.tail (Pick.tail (Pick.head)) | exact Pick.tail (Pick.tail (Pick.tail (Pick.head))) | exact Pick.tail (Pick.tail (Pick.tail (Pick.tail (Pick.head)))) | exact Pick.tail (Pick.tail (Pick.tail (Pick.tail (Pick.tail (Pick.head))))) | exact Pick.tail (Pick.tail (Pick.tail (Pick.tail (Pick.tail (Pick.tail (Pick.head)))))) | exact Pick.tail (Pick.tail (Pick.tail (Pick.tail (Pick.tail (Pick.tail (Pick.tail (Pick.head))))))) | exact Pick.tail (Pick.tail (Pick.tail (Pick.tail (Pick.tail (Pick.tail (Pick.tail (Pick.tail (Pick.head)))))))) | exact Pick.tail (Pick.tail (Pick.tail (Pick.tail (Pick.tail (Pick.tail (Pick.tail (Pick.tail (Pick.tail (Pick.head))))))))) | exact Pick.tail (Pick.tail (Pick.tail (Pick.tail (Pick.tail (Pick.tail (Pick.tail (Pick.tail (Pick.tail (Pick.tail (Pick.head)))))))))) | exact Pick.tail (Pick.tail (Pick.tail (Pick.tail (Pick.tail (Pick.tail (Pick.tail (Pick.tail (Pick.tail (Pick.tail (Pick.tail (Pick.head))))))))))) | exact Pick.tail (Pick.tail (Pick.tail (Pick.tail (Pick.tail (Pick.tail (Pick.tail (Pick.tail (Pick.tail (Pick.tail (Pick.tail (Pick.tail (Pick.head)))))))))))) | exact Pick.tail (Pick.tail (Pick.tail (Pick.tail (Pick.tail (Pick.tail (Pick.tail (Pick.tail (Pick.tail (Pick.tail (Pick.tail (Pick.tail (Pick.tail (Pick.head))))))))))))) | exact Pick.tail (Pick.tail (Pick.tail (Pick.tail (Pick.tail (Pick.tail (Pick.tail (Pick.tail (Pick.tail (Pick.tail (Pick.tail (Pick.tail (Pick.tail (Pick.tail (Pick.head)))))))))))))) | exact Pick.tail (Pick.tail (Pick.tail (Pick.tail (Pick.tail (Pick.tail (Pick.tail (Pick.tail (Pick.tail (Pick.tail (Pick.tail (Pick.tail (Pick.tail (Pick.tail (Pick.tail (Pick.head))))))))))))))) | exact Pick.tail (Pick.tail (Pick.tail (Pick.tail (Pick.tail (Pick.tail (Pick.tail (Pick.tail (Pick.tail (Pick.tail (Pick.tail (Pick.tail (Pick.tail (Pick.tail (Pick.tail (Pick.tail (Pick.head)))))))))))))))) | exact Pick.tail (Pick.tail (Pick.tail (Pick.tail (Pick.tail (Pick.tail (Pick.tail (Pick.tail (Pick.tail (Pick.tail (Pick.tail (Pick.tail (Pick.tail (Pick.tail (Pick.tail (Pick.tail (Pick.tail (Pick.head))))))))))))))))) | exact Pick.tail (Pick.tail (Pick.tail (Pick.tail (Pick.tail (Pick.tail (Pick.tail (Pick.tail (Pick.tail (Pick.tail (Pick.tail (Pick.tail (Pick.tail (Pick.tail (Pick.tail (Pick.tail (Pick.tail (Pick.tail (Pick.head)))))))))))))))))) | exact Pick.tail (Pick.tail (Pick.tail (Pick.tail (Pick.tail (Pick.tail (Pick.tail (Pick.tail (Pick.tail (Pick.tail (Pick.tail (Pick.tail (Pick.tail (Pick.tail (Pick.tail (Pick.tail (Pick.tail (Pick.tail (Pick.tail (Pick.head))))))))))))))))))) | exact Pick.tail (Pick.tail (Pick.tail (Pick.tail (Pick.tail (Pick.tail (Pick.tail (Pick.tail (Pick.tail (Pick.tail (Pick.tail (Pick.tail (Pick.tail (Pick.tail (Pick.tail (Pick.tail (Pick.tail (Pick.tail (Pick.tail (Pick.tail (Pick.head)))))))))))))))))))) | exact Pick.tail (Pick.tail (Pick.tail (Pick.tail (Pick.tail (Pick.tail (Pick.tail (Pick.tail (Pick.tail (Pick.tail (Pick.tail (Pick.tail (Pick.tail (Pick.tail (Pick.tail (Pick.tail (Pick.tail (Pick.tail (Pick.tail (Pick.tail (Pick.tail (Pick.head))))))))))))))))))))) | exact Pick.tail (Pick.tail (Pick.tail (Pick.tail (Pick.tail (Pick.tail (Pick.tail (Pick.tail (Pick.tail (Pick.tail (Pick.tail (Pick.tail (Pick.tail (Pick.tail (Pick.tail (Pick.tail (Pick.tail (Pick.tail (Pick.tail (Pick.tail (Pick.tail (Pick.tail (Pick.head)))))))))))))))))))))) | exact Pick.tail (Pick.tail (Pick.tail (Pick.tail (Pick.tail (Pick.tail (Pick.tail (Pick.tail (Pick.tail (Pick.tail (Pick.tail (Pick.tail (Pick.tail (Pick.tail (Pick.tail (Pick.tail (Pick.tail (Pick.tail (Pick.tail (Pick.tail (Pick.tail (Pick.tail (Pick.tail (Pick.head))))))))))))))))))))))))
local macro_rules | `(tactic| walk_at "SUB") => `(tactic| ((repeat (refine List.forall_mem_cons.mpr ⟨by k_mem, ?_⟩)); first | exact List.forall_mem_nil _ | (intro p hp; (repeat (refine List.mem_cons_of_mem _ ?_)); exact hp)))
local macro_rules | `(tactic| walk_at "NE") => `(tactic| (first | with_reducible assumption | with_reducible exact ltA_ne (by assumption) | with_reducible exact lt_ne (by assumption) | with_reducible exact lt_ne (And.right (by assumption)) | with_reducible exact lt_ne (And.right (And.right (by assumption))) | with_reducible exact lt_ne (And.right (And.right (And.right (by assumption)))) | with_reducible exact lt_ne (And.right (And.right (And.right (And.right (by assumption))))) | with_reducible exact lt_ne (And.right (And.right (And.right (And.right (And.right (by assumption)))))) | with_reducible exact lt_ne (And.right (And.right (And.right (And.right (And.right (And.right (by assumption))))))) | with_reducible exact lt_ne (And.right (And.right (And.right (And.right (And.right (And.right (And.right (by assumption)))))))) | with_reducible exact lt_ne (And.right (And.right (And.right (And.right (And.right (And.right (And.right (And.right (by assumption))))))))) | with_reducible exact lt_ne (And.right (And.right (And.right (And.right (And.right (And.right (And.right (And.right (And.right (by assumption)))))))))) | with_reducible exact lt_ne (And.right (And.right (And.right (And.right (And.right (And.right (And.right (And.right (And.right (And.right (by assumption))))))))))) | with_reducible exact lt_ne (And.right (And.right (And.right (And.right (And.right (And.right (And.right (And.right (And.right (And.right (And.right (by assumption)))))))))))) | with_reducible exact lt_ne (And.right (And.right (And.right (And.right (And.right (And.right (And.right (And.right (And.right (And.right (And.right (And.right (by assumption))))))))))))) | with_reducible exact lt_ne (And.right (And.right (And.right (And.right (And.right (And.right (And.right (And.right (And.right (And.right (And.right (And.right (And.right (by assumption)))))))))))))) | exact lt2_ne (by with_reducible assumption) (by with_reducible assumption) | with_reducible exact lt2_neA (by with_reducible assumption) (by assumption) | with_reducible exact lt2_neA (by with_reducible assumption) (And.right (by assumption)) | with_reducible exact lt2_neA (by with_reducible assumption) (And.right (And.right (by assumption))) | with_reducible exact lt2_neA (by with_reducible assumption) (And.right (And.right (And.right (by assumption)))) | with_reducible exact lt2_neA (by with_reducible assumption) (And.right (And.right (And.right (And.right (by assumption))))) | with_reducible exact lt2_neA (by with_reducible assumption) (And.right (And.right (And.right (And.right (And.right (by assumption)))))) | with_reducible exact lt2_neA (by with_reducible assumption) (And.right (And.right (And.right (And.right (And.right (And.right (by assumption))))))) | with_reducible exact lt2_neA (by with_reducible assumption) (And.right (And.right (And.right (And.right (And.right (And.right (And.right (by assumption)))))))) | with_reducible exact lt2_neA (by with_reducible assumption) (And.right (And.right (And.right (And.right (And.right (And.right (And.right (And.right (by assumption))))))))) | with_reducible exact lt2_neA (by with_reducible assumption) (And.right (And.right (And.right (And.right (And.right (And.right (And.right (And.right (And.right (by assumption)))))))))) | with_reducible exact lt2_neA (by with_reducible assumption) (And.right (And.right (And.right (And.right (And.right (And.right (And.right (And.right (And.right (And.right (by assumption))))))))))) | with_reducible exact lt2_neA (by with_reducible assumption) (And.right (And.right (And.right (And.right (And.right (And.right (And.right (And.right (And.right (And.right (And.right (by assumption)))))))))))) | with_reducible exact lt2_neA (by with_reducible assumption) (And.right (And.right (And.right (And.right (And.right (And.right (And.right (And.right (And.right (And.right (And.right (And.right (by assumption))))))))))))) | with_reducible exact lt2_neA (by with_reducible assumption) (And.right (And.right (And.right (And.right (And.right (And.right (And.right (And.right (And.right (And.right (And.right (And.right (And.right (by assumption)))))))))))))) | exact sub_all (by with_reducible assumption) (by walk_at "SUB")))
local macro_rules | `(tactic| walk_at "LTC") => `(tactic| (first | with_reducible assumption | with_reducible exact And.left (by assumption) | with_reducible exact And.left (And.right (by assumption)) | with_reducible exact And.left (And.right (And.right (by assumption))) | with_reducible exact And.left (And.right (And.right (And.right (by assumption)))) | with_reducible exact And.left (And.right (And.right (And.right (And.right (by assumption))))) | with_reducible exact And.left (And.right (And.right (And.right (And.right (And.right (by assumption)))))) | with_reducible exact And.left (And.right (And.right (And.right (And.right (And.right (And.right (by assumption))))))) | with_reducible exact And.left (And.right (And.right (And.right (And.right (And.right (And.right (And.right (by assumption)))))))) | with_reducible exact And.left (And.right (And.right (And.right (And.right (And.right (And.right (And.right (And.right (by assumption))))))))) | with_reducible exact And.left (And.right (And.right (And.right (And.right (And.right (And.right (And.right (And.right (And.right (by assumption)))))))))) | with_reducible exact And.left (And.right (And.right (And.right (And.right (And.right (And.right (And.right (And.right (And.right (And.right (by assumption))))))))))) | with_reducible exact And.left (And.right (And.right (And.right (And.right (And.right (And.right (And.right (And.right (And.right (And.right (And.right (by assumption)))))))))))) | with_reducible exact And.left (And.right (And.right (And.right (And.right (And.right (And.right (And.right (And.right (And.right (And.right (And.right (And.right (by assumption))))))))))))) | with_reducible exact And.left (And.right (And.right (And.right (And.right (And.right (And.right (And.right (And.right (And.right (And.right (And.right (And.right (And.right (by assumption)))))))))))))) | with_reducible exact And.left (And.right (And.right (And.right (And.right (And.right (And.right (And.right (And.right (And.right (And.right (And.right (And.right (And.right (And.right (by assumption))))))))))))))) | with_reducible exact And.left (And.right (And.right (And.right (And.right (And.right (And.right (And.right (And.right (And.right (And.right (And.right (And.right (And.right (And.right (And.right (by assumption)))))))))))))))) | with_reducible exact And.left (And.right (And.right (And.right (And.right (And.right (And.right (And.right (And.right (And.right (And.right (And.right (And.right (And.right (And.right (And.right (And.right (by assumption))))))))))))))))) | with_reducible exact And.left (And.right (And.right (And.right (And.right (And.right (And.right (And.right (And.right (And.right (And.right (And.right (And.right (And.right (And.right (And.right (And.right (And.right (by assumption))))))))))))))))))))
local macro_rules | `(tactic| walk_at "BUND") => `(tactic| first | with_reducible assumption | walk_at "BM")
local macro_rules | `(tactic| walk_at "spliced") => `(tactic| (k_here; k_dflt (refine' args_names ?k1 ?k2 ?k3 ?_; (case k2 => k_asm); (case k1 => exact rfl); (case k3 => exact rfl); k_whole)))
local macro_rules | `(tactic| k_all) => `(tactic| first | with_reducible assumption | exact List.forall_mem_nil _ | (refine List.forall_mem_cons.mpr ⟨by k_ne, ?_⟩; k_all) | walk_at "NE")
local macro_rules | `(tactic| k_mem) => `(tactic| first | with_reducible assumption | exact List.Mem.head _ | (refine' List.mem_cons_of_mem _ ?_; k_mem))
local macro_rules | `(tactic| k_ne) => `(tactic| first | with_reducible assumption | exact Ne.symm (by with_reducible assumption) | exact Nat.ne_of_lt (by walk_at "LTC") | exact Nat.ne_of_gt (by walk_at "LTC") | exact ne_all (by with_reducible assumption) (by k_mem) | exact Ne.symm (ne_all (by with_reducible assumption) (by k_mem)) | exact off3a (by with_reducible assumption) (by k_mem) | exact off3b (by with_reducible assumption) (by k_mem) | exact off3c (by with_reducible assumption) (by k_mem) | ((refine Nat.ne_of_gt (Nat.lt_trans ?_ (by with_reducible assumption))); walk_at "LTC") | ((refine Nat.ne_of_lt (Nat.lt_trans ?_ (by with_reducible assumption))); walk_at "LTC") | (refine neN ?_; (try dsimp only); omega))
local macro_rules | `(tactic| ktr_room) => `(tactic| ((rename (_ + _ < recursionLimit) => hd9); first | ((repeat (with_reducible first | refine rmD ?_ | refine rmM ?_)); first | exact rmB hd9 rfl | exact rmV hd9 rfl | exact rmN hd9 rfl | exact rmW hd9 rfl) | ((refine rm1 ?_); (repeat (with_reducible first | refine rmD ?_ | refine rmM ?_)); first | exact rmB hd9 rfl | exact rmV hd9 rfl | exact rmN hd9 rfl | exact rmW hd9 rfl)))
local macro_rules | `(tactic| ktr_units) => `(tactic| ((rename (_ + _ < cLine) => hd9); (repeat (with_reducible first | refine umD ?_ | refine umM ?_)); first | exact rmB hd9 rfl | exact rmV hd9 rfl | exact rmN hd9 rfl | exact rmW hd9 rfl))
local macro_rules | `(tactic| k_room) => `(tactic| ktr_room)
local macro_rules | `(tactic| k_units) => `(tactic| ktr_units)
local macro_rules | `(tactic| units_room) => `(tactic| ktr_units)
section
local macro_rules | `(tactic| k_all) => `(tactic| assumption)
local macro_rules | `(tactic| walk_at "compareOp Eq ref ref") => `(tactic| walk_at "HOLD")
local macro_rules | `(tactic| walk_at "call builtin:len") => `(tactic| walk_at "HOLD")
local macro_rules | `(tactic| walk_at "binaryOp Pow int int") => `(tactic| walk_at "HOLD")
local macro_rules | `(tactic| walk_at "binaryOp FloorDiv int int") => `(tactic| walk_at "HOLD")
set_option maxHeartbeats 8000000 in
theorem c_draw (w : World) (mean mg mb) (rest : Led) (pen cells : Addr) (vs : List Value) (ns : List Int) (n c c2 : Nat) (at' : Int) (ta : Tok) (many : Int) (tm : Tok)
    (hpen : ∀ p ∈ rest, p.1 ≠ pen) (hc : (cells, listOf vs.toArray c2) ∈ rest) (hI : IntsAre vs ns) (hl : ns.length ≤ 24) (h0 : 0 ≤ at') (h1 : at' ≤ 9) (hm : 0 < many) :
    Con w mean mg mb 783 4 300 [.ref pen, .int many tm] ((pen, listOf #[.ref cells, .int at' ta] c) :: rest) (fun kq => ∀ z t t', 0 ≤ z → z < many → kq (.int z t) ((pen, listOf #[.ref cells, .int (at' + 1) t'] c) :: rest)) := by
  unfold Con
  have hfill : (PySem.Challenge.rw_pf0148_01, hd.heap_39) = (PySem.Challenge.rw_pf0148_01, hd.heap_39) := rfl
  intro dp un gd nm cs a ccd cl outer A₀ base h₀ L m s Q E B F X N T hk hdp hun hret
  revert hfill
  k_fill
  intro hfill; clear hfill
  have hMk := kstMark
  refine wpAny_call ?_
  k_dflt ktr_enter
  (k_steps; (all_goals (try ((with_reducible refine unheld ?_); (first | (k_here; (with_reducible show wpAny _ _ (compareOp CmpOp.Eq (Value.ref _) (Value.ref _)) _ _ _); k_dflt (refine' eq_nilK ?k1_1 ?k2_1 ?k3_1 ?k5_1 ?_; (case k1_1 => exact isl (by k_asm) (by k_mem)); (case k2_1 => with_reducible assumption); (case k3_1 => exact isl (vs := []) (by k_asm) (by k_mem)); (case k5_1 => ktr_units); k_whole)) | fin_once hold walk1 | fail); (try k_steps)))); (all_goals (try ((with_reducible refine unheld ?_); (first | (k_here; (with_reducible show wpAny _ _ (call (Value.builtin "len") [Value.ref _]) _ _ _); k_dflt (refine' kst_len ?k1_2 ?k2_2 ?k3_2 ?k4_2 ?_; (case k1_2 => k_asm); (case k2_2 => k_mem); (case k3_2 => exact IntsAre.length (by with_reducible assumption)); (case k4_2 => omega)); k_whole) | fin_once hold walk1 | fail); (try k_steps)))); (all_goals (try ((with_reducible refine unheld ?_); (first | (k_here; (with_reducible show wpAny _ _ (call (Value.builtin "len") [Value.ref _]) _ _ _); k_dflt (refine' kst_len ?k1_3 ?k2_3 ?k3_3 ?k4_3 ?_; (case k1_3 => k_asm); (case k2_3 => k_mem); (case k3_3 => exact IntsAre.length (by with_reducible assumption)); (case k4_3 => omega)); k_whole) | fin_once hold walk1 | fail); (try k_steps)))); (all_goals (try ((with_reducible refine unheld ?_); (first | fin_once hold walk1 | fail); (try k_steps)))); (all_goals (try ((with_reducible refine unheld ?_); (first | (k_here; k_dflt (refine' pow_20 (by with_reducible assumption) (by with_reducible assumption) ?_); k_whole; intro p9z hp9z hq9z) | fin_once hold walk1 | fail); (try k_steps)))); (all_goals (try ((with_reducible refine unheld ?_); (first | (k_here; k_dflt (refine' fdiv_pos (by with_reducible assumption) (by with_reducible assumption) ?_); k_whole) | fin_once hold walk1 | fail); (try k_steps)))))
  all_goals (exact hret _ _ _ ((fmod_bd _ hm).1) ((fmod_bd _ hm).2) _ _ (by k_asm) (cb_drop (by assumption) (by intro p hp; first | exact hp | exact List.mem_cons_of_mem _ hp)))
end
section
abbrev tupO (vs : List Value) (n : Nat) : Obj := { cls := .type "tuple", data := .seq vs.toArray n }
theorem isT {h₀ h : Heap} {L a : Addr} {vs : List Value} {n : Nat} {l : Led} (N : News h₀ L h l) (hm : (a, tupO vs n) ∈ l) : IsTup h a vs.toArray := ⟨_, (N _ hm).1, rfl, n, rfl⟩
theorem item_rng {prog : Program} {w : World} {A : Around} {E : Value → Shared → Prop} {s : Shared} {value slice : Expr} {t : Addr} {vs : List Value} {a₀ : Int} {n : Nat} {k : Int} {u : Tok} {Q : Value → Shared → Prop} (ht : IsTup s.heap t vs.toArray) (hI : IntsAre vs (rangeKs a₀ n)) (hn : n ≤ 1000)
    (h0 : 0 ≤ k) (h1 : k < n) (h : ∀ tk, Q (.int (a₀ + k) tk) s)
    (hs : subscripted slice false (.ref t) (.int k u) = operate [.ref t, .int k u] (getItem (.ref t) (.int k u)) := by with_unfolding_all rfl) :
    wpAny (model prog w) A (subscriptTail value slice (.ref t) (.int k u)) Q E s := by
  have hlen : vs.length = n := by rw [hI.length, rangeKs_length]
  obtain ⟨tk, hx⟩ := hI.get k.toNat (a₀ + k) (by
    have : k.toNat < n := by omega
    simp [rangeKs, this]; omega)
  refine item_tupleT ht (by omega) (by omega) (j := k.toNat) ?_ hx (h tk) hs
  unfold seqIndex?
  rw [hlen]
  simp only [ge_iff_le]
  first | (rw [if_neg (by omega), if_pos (by omega)]) | (simp; omega)
theorem len_rng {prog : Program} {w : World} {A : Around} {E : Value → Shared → Prop} {s : Shared} {t : Addr} {vs : List Value} {a₀ : Int} {n : Nat} {Q : Value → Shared → Prop} (ht : IsTup s.heap t vs.toArray) (hI : IntsAre vs (rangeKs a₀ n)) (hn : n ≤ 1000)
    (h : Q (.int (n : Int) (s.toks + 1)) { s with toks := s.toks + 1 + 1 }) : wpAny (model prog w) A (call (.builtin "len") [.ref t]) Q E s := by
  have hlen : vs.toArray.size = n := by rw [List.size_toArray, hI.length, rangeKs_length]
  exact len_tuple ht (by rw [hlen]; omega) (by rw [hlen]; exact h)
local macro_rules | `(tactic| walk_at "subscriptTail") => `(tactic| walk_at "HOLD")
local macro_rules | `(tactic| walk_at "call builtin:len") => `(tactic| walk_at "HOLD")
theorem fdiv_2 {prog : Program} {w : World} {A : Around} {E : Value → Shared → Prop} {s : Shared} {a : Int} {t u : Tok} {Q : Value → Shared → Prop}
    (h : ∀ m : Int, 2 * m ≤ a → a < 2 * m + 2 → Q (.int m s.toks) { s with toks := s.toks + 1 }) : wpAny (model prog w) A (binaryOp .FloorDiv (.int a t) (.int 2 u)) Q E s := by
  refine floordiv_int (by decide) (h _ ?_ ?_) (Or.inl (PyProof.noPylong_small (by decide))) <;> (rw [Int.fdiv_eq_ediv_of_nonneg _ (by decide)]; omega)
local macro_rules | `(tactic| walk_at "binaryOp FloorDiv int int") => `(tactic| walk_at "HOLD")
set_option maxHeartbeats 8000000 in
theorem c_index (w : World) (mean mg mb) (news : Led) (cov cd gt : Addr) (gvs : List Value) (n : Nat) (t0 : Tok) (g : Int) (tg : Tok)
    (h1 : (cov, instObj 396 cd) ∈ news) (h2 : (cd, dictOf [⟨PyData.keyHash w.params (PySem.Str.ofString "glyphs"), .str (PySem.Str.ofString "glyphs") t0, .ref gt⟩] 1) ∈ news)
    (h3 : (gt, tupO gvs n) ∈ news) (hI : IntsAre gvs (rangeKs 10 270)) :
    Con w mean mg mb 379 4 300 [.ref cov, .int g tg] news (fun kq => ∀ t, kq (.int (if 10 ≤ g ∧ g < 280 then g - 10 else -1) t) news) := by
  unfold Con
  have hfill : (PySem.Challenge.rw_pf0148_01, hd.heap_39) = (PySem.Challenge.rw_pf0148_01, hd.heap_39) := rfl
  intro dp un gd nm cs a ccd cl outer A₀ base h₀ L m s Q E B F X N T hk hdp hun hret
  revert hfill
  k_fill
  intro hfill; clear hfill
  have hMk := kstMark
  k_with_none
  k_with "exec While Compare cons nil" => k_while (fun script low high => 0 ≤ low ∧ low ≤ high ∧ high ≤ 270 ∧ (low = 0 ∨ low + 9 < g) ∧ (high = 270 ∨ g ≤ high + 10)) (fun script low high => (high - low).toNat) "low" "high"
  refine wpAny_call ?_
  k_dflt ktr_enter
  (k_steps; (all_goals (try ((with_reducible refine unheld ?_); (first | (k_here; k_dflt (refine' fdiv_2 ?_); k_whole; intro m9z hm9z hq9z; (try dsimp only); (try k_fold)) | (k_here; (with_reducible show wpAny _ _ (call (Value.builtin "len") [Value.ref _]) _ _ _); k_dflt (refine' len_rng ?k1_7 ?k2_7 ?k3_7 ?_; (case k1_7 => exact isT (by k_asm) (by k_mem)); (case k2_7 => assumption); (case k3_7 => decide)); k_whole) | (k_here; (with_reducible show wpAny _ _ (subscriptTail _ _ (Value.ref _) (Value.int _ _)) _ _ _); k_dflt (refine' item_rng ?k1_8 ?k2_8 ?k3_8 ?k4_8 ?k5_8 ?_; (case k1_8 => exact isT (by k_asm) (by k_mem)); (case k2_8 => assumption); (case k3_8 => decide); (case k4_8 => omega); (case k5_8 => omega)); k_whole; intro t9z; (try dsimp only); (try k_fold)) | fin_once hold walk1 | fail); (try k_steps)))); (all_goals (try ((with_reducible refine unheld ?_); (first | (k_here; k_dflt (refine' fdiv_2 ?_); k_whole; intro m9z hm9z hq9z; (try dsimp only); (try k_fold)) | (k_here; (with_reducible show wpAny _ _ (call (Value.builtin "len") [Value.ref _]) _ _ _); k_dflt (refine' len_rng ?k1_10 ?k2_10 ?k3_10 ?_; (case k1_10 => exact isT (by k_asm) (by k_mem)); (case k2_10 => assumption); (case k3_10 => decide)); k_whole) | (k_here; (with_reducible show wpAny _ _ (subscriptTail _ _ (Value.ref _) (Value.int _ _)) _ _ _); k_dflt (refine' item_rng ?k1_11 ?k2_11 ?k3_11 ?k4_11 ?k5_11 ?_; (case k1_11 => exact isT (by k_asm) (by k_mem)); (case k2_11 => assumption); (case k3_11 => decide); (case k4_11 => omega); (case k5_11 => omega)); k_whole; intro t9z; (try dsimp only); (try k_fold)) | fin_once hold walk1 | fail); (try k_steps)))); (all_goals (try ((with_reducible refine unheld ?_); (first | (k_here; k_dflt (refine' fdiv_2 ?_); k_whole; intro m9z hm9z hq9z; (try dsimp only); (try k_fold)) | (k_here; (with_reducible show wpAny _ _ (call (Value.builtin "len") [Value.ref _]) _ _ _); k_dflt (refine' len_rng ?k1_13 ?k2_13 ?k3_13 ?_; (case k1_13 => exact isT (by k_asm) (by k_mem)); (case k2_13 => assumption); (case k3_13 => decide)); k_whole) | (k_here; (with_reducible show wpAny _ _ (subscriptTail _ _ (Value.ref _) (Value.int _ _)) _ _ _); k_dflt (refine' item_rng ?k1_14 ?k2_14 ?k3_14 ?k4_14 ?k5_14 ?_; (case k1_14 => exact isT (by k_asm) (by k_mem)); (case k2_14 => assumption); (case k3_14 => decide); (case k4_14 => omega); (case k5_14 => omega)); k_whole; intro t9z; (try dsimp only); (try k_fold)) | fin_once hold walk1 | fail); (try k_steps)))); (all_goals (try ((with_reducible refine unheld ?_); (first | (k_here; k_dflt (refine' fdiv_2 ?_); k_whole; intro m9z hm9z hq9z; (try dsimp only); (try k_fold)) | (k_here; (with_reducible show wpAny _ _ (call (Value.builtin "len") [Value.ref _]) _ _ _); k_dflt (refine' len_rng ?k1_16 ?k2_16 ?k3_16 ?_; (case k1_16 => exact isT (by k_asm) (by k_mem)); (case k2_16 => assumption); (case k3_16 => decide)); k_whole) | (k_here; (with_reducible show wpAny _ _ (subscriptTail _ _ (Value.ref _) (Value.int _ _)) _ _ _); k_dflt (refine' item_rng ?k1_17 ?k2_17 ?k3_17 ?k4_17 ?k5_17 ?_; (case k1_17 => exact isT (by k_asm) (by k_mem)); (case k2_17 => assumption); (case k3_17 => decide); (case k4_17 => omega); (case k5_17 => omega)); k_whole; intro t9z; (try dsimp only); (try k_fold)) | fin_once hold walk1 | fail); (try k_steps)))); (all_goals (try ((with_reducible refine unheld ?_); (first | (k_here; k_dflt (refine' fdiv_2 ?_); k_whole; intro m9z hm9z hq9z; (try dsimp only); (try k_fold)) | (k_here; (with_reducible show wpAny _ _ (call (Value.builtin "len") [Value.ref _]) _ _ _); k_dflt (refine' len_rng ?k1_19 ?k2_19 ?k3_19 ?_; (case k1_19 => exact isT (by k_asm) (by k_mem)); (case k2_19 => assumption); (case k3_19 => decide)); k_whole) | (k_here; (with_reducible show wpAny _ _ (subscriptTail _ _ (Value.ref _) (Value.int _ _)) _ _ _); k_dflt (refine' item_rng ?k1_20 ?k2_20 ?k3_20 ?k4_20 ?k5_20 ?_; (case k1_20 => exact isT (by k_asm) (by k_mem)); (case k2_20 => assumption); (case k3_20 => decide); (case k4_20 => omega); (case k5_20 => omega)); k_whole; intro t9z; (try dsimp only); (try k_fold)) | fin_once hold walk1 | fail); (try k_steps)))); (all_goals (try ((with_reducible refine unheld ?_); (first | (k_here; k_dflt (refine' fdiv_2 ?_); k_whole; intro m9z hm9z hq9z; (try dsimp only); (try k_fold)) | (k_here; (with_reducible show wpAny _ _ (call (Value.builtin "len") [Value.ref _]) _ _ _); k_dflt (refine' len_rng ?k1_22 ?k2_22 ?k3_22 ?_; (case k1_22 => exact isT (by k_asm) (by k_mem)); (case k2_22 => assumption); (case k3_22 => decide)); k_whole) | (k_here; (with_reducible show wpAny _ _ (subscriptTail _ _ (Value.ref _) (Value.int _ _)) _ _ _); k_dflt (refine' item_rng ?k1_23 ?k2_23 ?k3_23 ?k4_23 ?k5_23 ?_; (case k1_23 => exact isT (by k_asm) (by k_mem)); (case k2_23 => assumption); (case k3_23 => decide); (case k4_23 => omega); (case k5_23 => omega)); k_whole; intro t9z; (try dsimp only); (try k_fold)) | fin_once hold walk1 | fail); (try k_steps)))))
  all_goals (refine castv (Q := Q) (congrArg (fun z => Value.int z _) ?_) (hret _ _ _ (by k_asm) (by k_asm)))
  all_goals (split <;> first | omega | ((simp only [decide_eq_true_eq, decide_eq_false_iff_not, beq_iff_eq] at *) <;> omega))
end
section
local macro_rules | `(tactic| walk_at "call ref") => `(tactic| walk_at "HOLD")
set_option maxHeartbeats 8000000 in
theorem c_has (w : World) (mean mg mb) (news : Led) (cov cd gt : Addr) (gvs : List Value) (n : Nat) (t0 : Tok) (g : Int) (tg : Tok)
    (h1 : (cov, instObj 396 cd) ∈ news) (h2 : (cd, dictOf [⟨PyData.keyHash w.params (PySem.Str.ofString "glyphs"), .str (PySem.Str.ofString "glyphs") t0, .ref gt⟩] 1) ∈ news)
    (h3 : (gt, tupO gvs n) ∈ news) (hI : IntsAre gvs (rangeKs 10 270)) :
    Con w mean mg mb 386 6 320 [.ref cov, .int g tg] news (fun kq => kq (.bool (decide (10 ≤ g ∧ g < 280))) news) := by
  unfold Con
  have hfill : (PySem.Challenge.rw_pf0148_01, hd.heap_39) = (PySem.Challenge.rw_pf0148_01, hd.heap_39) := rfl
  intro dp un gd nm cs a ccd cl outer A₀ base h₀ L m s Q E B F X N T hk hdp hun hret
  revert hfill
  k_fill
  intro hfill; clear hfill
  have hMk := kstMark
  k_with_none
  refine wpAny_call ?_
  k_dflt ktr_enter
  (k_steps; (all_goals (try ((with_reducible refine unheld ?_); (first | (refine' con_use ?k1_24 ?k2_24 ?k3_24 ?k4_24 ?k5_24 ?kK_24 ?kd_24 ?ku_24 (c_index _ _ _ _ _ _ _ _ _ _ _ _ _ ?m1_24 ?m2_24 ?m3_24 ?a1_24) ?_; (case k1_24 => k_asm); (case k2_24 => k_asm); (case k3_24 => k_asm); (case k4_24 => k_asm); (case k5_24 => k_asm); (case kK_24 => first | exact rfl | assumption); (case m1_24 => k_mem); (case m2_24 => k_mem); (case m3_24 => k_mem); (case a1_24 => assumption); (case kd_24 => ktr_room); (case ku_24 => ktr_units); k_whole;  intro t9z h9z tk9z F9z N9z; (try dsimp only); (try k_fold)) | fin_once hold walk1 | fail); (try k_steps)))); (all_goals (try ((with_reducible refine unheld ?_); (first | (refine' con_use ?k1_25 ?k2_25 ?k3_25 ?k4_25 ?k5_25 ?kK_25 ?kd_25 ?ku_25 (c_index _ _ _ _ _ _ _ _ _ _ _ _ _ ?m1_25 ?m2_25 ?m3_25 ?a1_25) ?_; (case k1_25 => k_asm); (case k2_25 => k_asm); (case k3_25 => k_asm); (case k4_25 => k_asm); (case k5_25 => k_asm); (case kK_25 => first | exact rfl | assumption); (case m1_25 => k_mem); (case m2_25 => k_mem); (case m3_25 => k_mem); (case a1_25 => assumption); (case kd_25 => ktr_room); (case ku_25 => ktr_units); k_whole;  intro t9z h9z tk9z F9z N9z; (try dsimp only); (try k_fold)) | fin_once hold walk1 | fail); (try k_steps)))))
  exact castv (Q := Q) (congrArg Value.bool (by rw [decide_eq_decide]; split <;> omega)) (hret _ _ (by k_asm) (by k_asm))
end
section
set_option maxHeartbeats 8000000 in
theorem c_class (w : World) (mean mg mb) (news : Led) (no nd nc : Addr) (o : Obj) (t0 : Tok) (g : Int) (tg : Tok)
    (h1 : (no, instObj 717 nd) ∈ news) (h2 : (nd, dictOf [⟨PyData.keyHash w.params (PySem.Str.ofString "classes"), .str (PySem.Str.ofString "classes") t0, .ref nc⟩] 1) ∈ news)
    (h3 : (nc, o) ∈ news) (lo : (nc == sysModules) = false) (ho : o.IsDictOf (PySem.intKind PR w) []) (hf : PyProof.V.FlatPairs PyData.int ([] : List (Int × Value)) []) :
    Con w mean mg mb 695 4 300 [.ref no, .int g tg] news (fun kq => ∀ t, kq (.int 0 t) news) := by
  unfold Con
  have hfill : (PySem.Challenge.rw_pf0148_01, hd.heap_39) = (PySem.Challenge.rw_pf0148_01, hd.heap_39) := rfl
  intro dp un gd nm cs a ccd cl outer A₀ base h₀ L m s Q E B F X N T hk hdp hun hret
  revert hfill
  k_fill
  intro hfill; clear hfill
  have hMk := kstMark
  k_with_none
  refine wpAny_call ?_
  k_dflt ktr_enter
  k_steps
  exact hret _ _ _ (by k_asm) (by k_asm)
end
section
variable {prog : Program} {w : World} {A : Around} {E : Value → Shared → Prop} {s : Shared} {h₀ : Heap} {L : Addr} {m : Str → Option Value} {env : Env}
/-- the source of a list comprehension is a tuple of the ledger -/
def CompTup (prog : Program) (w : World) (A : Around) (h₀ : Heap) (L : Addr) (m : Str → Option Value) (env : Env) (elt : Expr) (x : Str) (scope : Scope) (cl : List (Str × Addr)) (Fin : Shared → List Value → Led → Prop) (xv : Value) (s₁ : Shared) : Prop :=
  ∃ (ax : Addr) (its : List Value) (k : Nat) (news : Led), xv = .ref ax ∧ A.handled = none ∧ Fr h₀ L s₁.heap m ∧ News h₀ L s₁.heap news ∧ (ax, tupO its k) ∈ news ∧ its.length ≤ sizeLine ∧
    ∀ g, LCg.CompRest prog w A h₀ L m env elt x scope cl { s₁ with heap := g } (fun nw => (ax, tupO its k) ∈ nw) (fun i v => its.toArray[i]? = some v) (Fin { s₁ with heap := g }) its.length 0 [] news
theorem CompTup.intro {elt : Expr} {x : Str} {scope : Scope} {cl : List (Str × Addr)} {Fin : Shared → List Value → Led → Prop} {ax : Addr} {its : List Value} {k : Nat} {news : Led} {s₁ : Shared}
    (hh : A.handled = none) (F : Fr h₀ L s₁.heap m) (N : News h₀ L s₁.heap news) (hm : (ax, tupO its k) ∈ news) (hsz : its.length ≤ sizeLine)
    (h : ∀ g, LCg.CompRest prog w A h₀ L m env elt x scope cl { s₁ with heap := g } (fun nw => (ax, tupO its k) ∈ nw) (fun i v => its.toArray[i]? = some v) (Fin { s₁ with heap := g }) its.length 0 [] news) :
    CompTup prog w A h₀ L m env elt x scope cl Fin (.ref ax) s₁ := ⟨ax, its, k, news, rfl, hh, F, N, hm, hsz, h⟩
theorem comp_tup {elt iter : Expr} {x : Str} {px : Pos} {scope : Scope} {cl : List (Str × Addr)} {pos : Pos} {Q : Value → Shared → Prop} (F₀ : Fr h₀ L s.heap m)
    (hclos : closureFor scope env = pure cl) (hcell : ∀ y ∈ scope.names, y.2 ≠ .cell) (hkind : scope.kind = .function)
    (hnames : ∀ y ∈ scope.names, y.2 = .local → scope.names.lookup y.1 = some .local) (hx : scope.names.lookup x = some .local)
    (h : wpAny (model prog w) A (eval iter env) (CompTup prog w A h₀ L m env elt x scope cl (fun s₂ => LCg.FinE h₀ L m s₂ Q)) E s)
    (hs : ∀ x, foldedSetIterable iter env x = pure x := by intro _; rfl) :
    wpAny (model prog w) A (eval (.ListComp elt [⟨.Name x px, iter, [], 0⟩] scope pos) env) Q E s := by
  rw [eval_ListComp]
  refine wpAny_comprehension_free (use := none) rfl hs hclos hkind hnames (wpAny_mono h (fun xv s₁ h₁ => ?_) fun _ _ e => e)
  obtain ⟨ax, its, k, news, rfl, hh, F, N, hm, hsz, R⟩ := h₁
  have ho := (N _ hm).1
  have hlt : ax < s₁.heap.objs.size := Heap.lt_size ho
  have hT : s₁.heap.IsTuple ax its.toArray := ⟨_, ho, rfl, k, rfl⟩
  refine wpAny_pyIter_tuple hT ?_
  have up : ∀ b o, s₁.heap.get? b = some o → (s₁.heap.push { cls := .type "tuple_iterator", data := .fields #[.ref ax, .int 0 0] }).get? b = some o := fun b o e => Heap.get?_push_of_some _ e
  have hlen : its.toArray.size = its.length := List.size_toArray
  have W := Walks.tuple (prog := prog) (w := w) hh s₁.heap.objs.size ax (Nat.ne_of_lt hlt) its.toArray
  rw [hlen] at W
  refine LCg.block_U W hsz (fun i h st => by obtain ⟨o, e, _⟩ := st.1; exact ⟨o, e⟩)
    (S := fun nw => (ax, tupO its k) ∈ nw) (fun i h h' o nw st e e' _ N' hS => ⟨by obtain ⟨o', q, r⟩ := st.1; rw [e] at q; cases q; exact ⟨o, e', r⟩, ⟨_, (N' _ hS).1, rfl, k, rfl⟩⟩)
    hcell hkind hx ⟨⟨_, Heap.get?_push_size _ rfl, rfl, rfl⟩, hT.push _⟩ (fun b hb => ?_) (F.keeps up) (N.grown up) (Nat.ne_of_lt F.ns.lt) (next_is_new F) (fun p hp => Nat.ne_of_lt (Heap.lt_size (N p hp).1)) hm (R _) ?_
  · show b < (s₁.heap.push _).objs.size
    rw [Heap.size_push]
    rcases List.mem_cons.mp hb with rfl | hb
    · exact Nat.lt_succ_self _
    · rw [List.mem_singleton.mp hb]; exact Nat.lt_succ_of_lt hlt
  · intro D C h tk m' ys news' F' N' o1 hn hC₀ hD₀ hCL hDL hCD offC fin
    refine ⟨m', hn, fun h'' hs'' => fin D h'' tk (F'.change hs'' hCL hC₀) (fun p hp => ?_) o1⟩
    refine ⟨hs''.extBut _ _ ?_ (N' p hp).1, (N' p hp).2⟩
    rcases List.mem_cons.mp hp with rfl | hp
    · exact Ne.symm hCD
    · exact offC p hp
theorem comp_end {I C D : Addr} {s₁ : Shared} {oI oC oD : Obj} {S : Led → Prop} {rest : Value → Led → Prop} {y : Value} {h' : Heap} {tk : Nat} {all r1 r2 r3 : Led}
    (F : Fr h₀ L h' m) (N : News h₀ L h' all) (p1 : Pick I oI all r1) (p2 : Pick C oC r1 r2) (p3 : Pick D oD r2 r3) (off : LCg.Off3 I C D r3) (hS : S r3) (r : rest y r3) :
    LCg.CompEnd h₀ L m s₁ I oI C oC D oD S rest y { s₁ with heap := h', toks := tk } :=
  LCg.CompEnd.intro F N r3 (fun p hp => by
    rcases List.mem_cons.mp hp with rfl | hp
    · exact p1.sub _ (.head _)
    · refine p1.sub _ (.tail _ ?_)
      rcases List.mem_cons.mp hp with rfl | hp
      · exact p2.sub _ (.head _)
      · refine p2.sub _ (.tail _ ?_)
        exact p3.sub _ hp) off hS r
end
local macro_rules | `(tactic| lcg_off) => `(tactic| first | (refine And.intro ⟨by k_ne, by k_ne, by k_ne⟩ ?_; lcg_off) | exact off3_sub (by with_reducible assumption) (by walk_at "SUB") | with_reducible assumption)
local macro_rules | `(tactic| walk_at "CompRest") => `(tactic| (with_unfolding_all first | (refine LCg.CompRest.succ ?_; intro v' I' oI' C' oC' D' m' h' tk' E' hv' hC' hx' F' N' off' ne'; (first | lcg_open hv' | (obtain ⟨t9', hv9'⟩ := hv'; subst hv9')); obtain ⟨ne1', ne2', ne3'⟩ := ne') | refine LCg.CompRest.zero ?_))
local macro_rules | `(tactic| walk_at "FinE") => `(tactic| ((unfold LCg.FinE); intro D' h' tk' F' N' o1'; (replace o1' := off1_ne o1'); (try simp only [List.nil_append, List.cons_append] at N'); (try dsimp only)))
local macro_rules | `(tactic| walk_at "CompTup") => `(tactic| (k_here; k_dflt (refine' CompTup.intro ?k1 ?k2 ?k3 ?k4 ?k5 ?_; (case k1 => rfl); (case k2 => k_asm); (case k3 => k_asm); (case k4 => k_mem); (case k5 => exact Nat.le_of_ble_eq_true rfl)); intro g9; lcg_lit))
local macro_rules | `(tactic| walk_at "CompEnd") => `(tactic| (refine' comp_end ?k1 ?k2 ?p1 ?p2 ?p3 ?k3 ?k4 ?_; (case k1 => k_asm); (case k2 => k_asm); (case p1 => (walk_at "PICK")); (case p2 => (walk_at "PICK")); (case p3 => (walk_at "PICK")); (case k3 => lcg_off); (case k4 => first | k_mem | exact Or.inr ⟨_, by k_mem, rfl, _, rfl⟩)))
local macro_rules | `(tactic| walk_at "LC1") => `(tactic| (k_here; k_dflt (refine comp_tup (F₀ := by k_asm) (by with_unfolding_all rfl) (by decide) (by rfl) (by decide) (by rfl) ?_)))
local macro_rules | `(tactic| walk_at "LC2") => `(tactic| (k_here; k_dflt (refine LCg.ListComp_U (F₀ := by k_asm) (by with_unfolding_all rfl) (by decide) (by rfl) (by decide) (by rfl) ?_)))
local macro_rules | `(tactic| walk_at "CSRC") => `(tactic| (k_here; k_dflt (refine LCg.CompSrc.ledger (by rfl) (by k_asm) (by k_asm) (by k_mem) (by first | size_fits | exact Nat.le_of_ble_eq_true rfl) ?_; intro g'; lcg_lit)))
section
local macro_rules | `(tactic| walk_at "eval ListComp") => `(tactic| walk_at "LC1")
set_option maxHeartbeats 8000000 in
theorem c_tests0 (w : World) (mean mg mb) (news : Led) (e no : Addr) (n : Nat) (tw : Tok) (h1 : (e, tupO [] n) ∈ news) :
    Con w mean mg mb 493 4 300 [.ref e, .str (PySem.Str.ofString "class") tw, .ref no] news (fun kq => ∀ r, (∀ p ∈ news, p.1 ≠ r) → kq (.ref r) ((r, listOf #[] 0) :: news)) := by
  unfold Con
  have hfill : (PySem.Challenge.rw_pf0148_01, hd.heap_39) = (PySem.Challenge.rw_pf0148_01, hd.heap_39) := rfl
  intro dp un gd nm cs a ccd cl outer A₀ base h₀ L m s Q E B F X N T hk hdp hun hret
  revert hfill
  k_fill
  intro hfill; clear hfill
  have hMk := kstMark
  k_with_none
  refine wpAny_call ?_
  k_dflt (refine' code_defC ?k1 ?k2 ?k3 ?k4 ?k5 ?kA ?kF ?kK ?k6 ?k7 ?k8 ?k9 ?kB ?kD ?_ ?c2 ?c3 ?c4; (case kA => exact rfl); (case kF => exact rfl); (case kK => assumption); (case k1 => k_asm); (case k2 => k_asm); (case k3 => k_asm); (case k4 => k_asm); (case k5 => k_asm); (case k6 => k_is); (case k7 => k_is); (case k8 => ktr_room); (case k9 => exact BindsTo.of_eq rfl); (case kB => exact rfl); (case kD => decide +kernel); (case c2 => exact rfl); (case c3 => exact rfl); (case c4 => exact rfl); k_whole; intro g' L' h' tk' cells' FG' F' N' Y' B' X' T' l1; (try k_lt l1); k_cells Y'; (try simp only [List.cons_append, List.nil_append] at N'); (try dsimp only); (try k_fold))
  k_steps
  exact hret _ (by walk_at "NE") _ _ (by k_asm) (cb_drop (by assumption) (by walk_at "SUB"))
set_option maxHeartbeats 8000000 in
theorem c_tests1 (w : World) (mean mg mb) (news : Led) (e no : Addr) (n : Nat) (tw t1 : Tok) (h1 : (e, tupO [.int 0 t1] n) ∈ news) :
    Con w mean mg mb 493 4 300 [.ref e, .str (PySem.Str.ofString "class") tw, .ref no] news (fun kq => ∀ r q t, (∀ p ∈ news, p.1 ≠ r) → (∀ p ∈ news, p.1 ≠ q) → r ≠ q → kq (.ref r) ((r, listOf #[.ref q] 1) :: (q, tupO [.str (PySem.Str.ofString "class") t, .ref no, .int 0 t1] 0) :: news)) := by
  unfold Con
  have hfill : (PySem.Challenge.rw_pf0148_01, hd.heap_39) = (PySem.Challenge.rw_pf0148_01, hd.heap_39) := rfl
  intro dp un gd nm cs a ccd cl outer A₀ base h₀ L m s Q E B F X N T hk hdp hun hret
  revert hfill
  k_fill
  intro hfill; clear hfill
  have hMk := kstMark
  k_with_none
  refine wpAny_call ?_
  k_dflt (refine' code_defC ?k1 ?k2 ?k3 ?k4 ?k5 ?kA ?kF ?kK ?k6 ?k7 ?k8 ?k9 ?kB ?kD ?_ ?c2 ?c3 ?c4; (case kA => exact rfl); (case kF => exact rfl); (case kK => assumption); (case k1 => k_asm); (case k2 => k_asm); (case k3 => k_asm); (case k4 => k_asm); (case k5 => k_asm); (case k6 => k_is); (case k7 => k_is); (case k8 => ktr_room); (case k9 => exact BindsTo.of_eq rfl); (case kB => exact rfl); (case kD => decide +kernel); (case c2 => exact rfl); (case c3 => exact rfl); (case c4 => exact rfl); k_whole; intro g' L' h' tk' cells' FG' F' N' Y' B' X' T' l1; (try k_lt l1); k_cells Y'; (try simp only [List.cons_append, List.nil_append] at N'); (try dsimp only); (try k_fold))
  k_steps
  refine' hret _ _ _ ?za ?zb ?zc _ _ (by k_asm) (cb_drop (by assumption) ?zd)
  case zd => walk_at "SUB"
  case za => walk_at "NE"
  case zb => walk_at "NE"
  case zc => k_ne
end
def CovIn (w : World) (l : Led) (cov : Addr) : Prop := ∃ (cd gt : Addr) (gvs : List Value) (n : Nat) (t0 : Tok), (cov, instObj 396 cd) ∈ l ∧ (cd, dictOf [⟨PyData.keyHash w.params (PySem.Str.ofString "glyphs"), .str (PySem.Str.ofString "glyphs") t0, .ref gt⟩] 1) ∈ l ∧ (gt, tupO gvs n) ∈ l ∧ IntsAre gvs (rangeKs 10 270)
def NoneIn (w : World) (l : Led) (no : Addr) : Prop := ∃ (nd nc : Addr) (o : Obj) (t0 : Tok), (no, instObj 717 nd) ∈ l ∧ (nd, dictOf [⟨PyData.keyHash w.params (PySem.Str.ofString "classes"), .str (PySem.Str.ofString "classes") t0, .ref nc⟩] 1) ∈ l ∧ (nc, o) ∈ l ∧ (nc == sysModules) = false ∧ o.IsDictOf (PySem.intKind PR w) []
abbrev ruleO (w : World) (e1 i1 e2 act : Addr) (T : Nat → Tok) : Obj := dictOf [⟨PyData.keyHash w.params (PySem.Str.ofString "back"), .str (PySem.Str.ofString "back") (T 1), .ref e1⟩, ⟨PyData.keyHash w.params (PySem.Str.ofString "inside"), .str (PySem.Str.ofString "inside") (T 2), .ref i1⟩, ⟨PyData.keyHash w.params (PySem.Str.ofString "ahead"), .str (PySem.Str.ofString "ahead") (T 3), .ref e2⟩, ⟨PyData.keyHash w.params (PySem.Str.ofString "actions"), .str (PySem.Str.ofString "actions") (T 4), .ref act⟩] 4
def RuleIn (w : World) (l : Led) (ru act : Addr) : Prop := ∃ (rd e1 i1 e2 : Addr) (C : Nat → Nat) (T : Nat → Tok), (ru, instObj 438 rd) ∈ l ∧ (rd, ruleO w e1 i1 e2 act T) ∈ l ∧ (e1, tupO [] (C 1)) ∈ l ∧ (i1, tupO [.int 0 (T 0)] (C 2)) ∈ l ∧ (e2, tupO [] (C 3)) ∈ l
abbrev tabO (w : World) (st cov cl : Addr) (T : Nat → Tok) : Obj := dictOf [⟨PyData.keyHash w.params (PySem.Str.ofString "form"), .str (PySem.Str.ofString "form") (T 1), .int 2 (T 6)⟩, ⟨PyData.keyHash w.params (PySem.Str.ofString "is_chained"), .str (PySem.Str.ofString "is_chained") (T 2), .bool true⟩, ⟨PyData.keyHash w.params (PySem.Str.ofString "sets"), .str (PySem.Str.ofString "sets") (T 3), .ref st⟩, ⟨PyData.keyHash w.params (PySem.Str.ofString "coverage"), .str (PySem.Str.ofString "coverage") (T 4), .ref cov⟩, ⟨PyData.keyHash w.params (PySem.Str.ofString "classes"), .str (PySem.Str.ofString "classes") (T 5), .ref cl⟩] 5
def TabIn (w : World) (l : Led) (tb act : Addr) : Prop := ∃ (td st rl ru cov cl no : Addr) (o : Obj) (cnt n : Nat) (T : Nat → Tok), (tb, instObj 479 td) ∈ l ∧ (td, tabO w st cov cl T) ∈ l ∧
  (st, o) ∈ l ∧ (st == sysModules) = false ∧ o.IsDictOf (PySem.intKind PR w) [(0, .ref rl)] ∧ (rl, listOf #[.ref ru] cnt) ∈ l ∧ RuleIn w l ru act ∧ CovIn w l cov ∧ (cl, tupO [.ref no, .ref no, .ref no] n) ∈ l ∧ NoneIn w l no
theorem CovIn.elim {w : World} {l : Led} {cov : Addr} {P : Prop} (h : CovIn w l cov) (k : ∀ cd gt gvs n t0, (cov, instObj 396 cd) ∈ l → (cd, dictOf [⟨PyData.keyHash w.params (PySem.Str.ofString "glyphs"), .str (PySem.Str.ofString "glyphs") t0, .ref gt⟩] 1) ∈ l → (gt, tupO gvs n) ∈ l → IntsAre gvs (rangeKs 10 270) → P) : P := by
  obtain ⟨a1, a2, a3, a4, a5, h1, h2, h3, h4⟩ := h
  exact k a1 a2 a3 a4 a5 h1 h2 h3 h4
theorem NoneIn.elim {w : World} {l : Led} {no : Addr} {P : Prop} (h : NoneIn w l no) (k : ∀ nd nc o t0, (no, instObj 717 nd) ∈ l → (nd, dictOf [⟨PyData.keyHash w.params (PySem.Str.ofString "classes"), .str (PySem.Str.ofString "classes") t0, .ref nc⟩] 1) ∈ l → (nc, o) ∈ l → (nc == sysModules) = false → o.IsDictOf (PySem.intKind PR w) [] → P) : P := by
  obtain ⟨a1, a2, a3, a4, h1, h2, h3, h4, h5⟩ := h
  exact k a1 a2 a3 a4 h1 h2 h3 h4 h5
theorem RuleIn.elim {w : World} {l : Led} {ru act : Addr} {P : Prop} (h : RuleIn w l ru act) (k : ∀ rd e1 i1 e2 (C : Nat → Nat) (T : Nat → Tok), (ru, instObj 438 rd) ∈ l → (rd, ruleO w e1 i1 e2 act T) ∈ l → (e1, tupO [] (C 1)) ∈ l → (i1, tupO [.int 0 (T 0)] (C 2)) ∈ l → (e2, tupO [] (C 3)) ∈ l → P) : P := by
  obtain ⟨a1, a2, a3, a4, a5, a6, h1, h2, h3, h4, h5⟩ := h
  exact k a1 a2 a3 a4 a5 a6 h1 h2 h3 h4 h5
theorem TabIn.elim {w : World} {l : Led} {tb act : Addr} {P : Prop} (h : TabIn w l tb act) (k : ∀ td st rl ru cov cl no o cnt n (T : Nat → Tok), (tb, instObj 479 td) ∈ l → (td, tabO w st cov cl T) ∈ l → (st, o) ∈ l → (st == sysModules) = false → o.IsDictOf (PySem.intKind PR w) [(0, .ref rl)] → (rl, listOf #[.ref ru] cnt) ∈ l → RuleIn w l ru act → CovIn w l cov → (cl, tupO [.ref no, .ref no, .ref no] n) ∈ l → NoneIn w l no → P) : P := by
  obtain ⟨a1, a2, a3, a4, a5, a6, a7, a8, a9, a10, a11, h1, h2, h3, h4, h5, h6, h7, h8, h9, h10⟩ := h
  exact k a1 a2 a3 a4 a5 a6 a7 a8 a9 a10 a11 h1 h2 h3 h4 h5 h6 h7 h8 h9 h10
theorem CovIn.mono {w : World} {l l' : Led} {a : Addr} (h : CovIn w l a) (s : ∀ p ∈ l, p ∈ l') : CovIn w l' a := h.elim fun _ _ _ _ _ h1 h2 h3 h4 => ⟨_, _, _, _, _, s _ h1, s _ h2, s _ h3, h4⟩
local macro_rules | `(tactic| walk_at "BM") => `(tactic| ((with_reducible refine CovIn.mono (by with_reducible assumption) ?_); walk_at "SUB"))
theorem NoneIn.mono {w : World} {l l' : Led} {a : Addr} (h : NoneIn w l a) (s : ∀ p ∈ l, p ∈ l') : NoneIn w l' a := h.elim fun _ _ _ _ h1 h2 h3 h4 h5 => ⟨_, _, _, _, s _ h1, s _ h2, s _ h3, h4, h5⟩
local macro_rules | `(tactic| walk_at "BM") => `(tactic| ((with_reducible refine NoneIn.mono (by with_reducible assumption) ?_); walk_at "SUB"))
theorem RuleIn.mono {w : World} {l l' : Led} {a b : Addr} (h : RuleIn w l a b) (s : ∀ p ∈ l, p ∈ l') : RuleIn w l' a b := h.elim fun _ _ _ _ C T h1 h2 h3 h4 h5 => ⟨_, _, _, _, C, T, s _ h1, s _ h2, s _ h3, s _ h4, s _ h5⟩
local macro_rules | `(tactic| walk_at "BM") => `(tactic| ((with_reducible refine RuleIn.mono (by with_reducible assumption) ?_); walk_at "SUB"))
theorem TabIn.mono {w : World} {l l' : Led} {a b : Addr} (h : TabIn w l a b) (s : ∀ p ∈ l, p ∈ l') : TabIn w l' a b := h.elim fun _ _ _ _ _ _ _ _ _ _ T h1 h2 h3 h4 h5 h6 h7 h8 h9 h10 => ⟨_, _, _, _, _, _, _, _, _, _, T, s _ h1, s _ h2, s _ h3, h4, h5, s _ h6, h7.mono s, h8.mono s, s _ h9, h10.mono s⟩
local macro_rules | `(tactic| walk_at "BM") => `(tactic| ((with_reducible refine TabIn.mono (by with_reducible assumption) ?_); walk_at "SUB"))
theorem c_cls (w : World) (mean mg mb) (news : Led) (no : Addr) (g : Int) (tg : Tok) (hn : NoneIn w news no) : Con w mean mg mb 695 4 300 [.ref no, .int g tg] news (fun kq => ∀ t, kq (.int 0 t) news) := by
  refine hn.elim fun nd nc no9 nt d1 d2 d3 d4 d5 => ?_
  exact c_class w mean mg mb news no nd nc no9 nt g tg d1 d2 d3 d4 d5 PyProof.V.FlatPairs.nil
section
local macro_rules | `(tactic| walk_at "call ref") => `(tactic| walk_at "HOLD")
set_option maxHeartbeats 8000000 in
theorem c_rule_tests (w : World) (mean mg mb) (news : Led) (tb td cl no ru rd e1 i1 e2 act : Addr) (n n1 n2 n3 : Nat) (v3 v4 : Value) (t t1 t2 t3 t4 t5 tf s1 s2 s3 s4 : Tok)
    (h1 : (tb, instObj 479 td) ∈ news) (h2 : (td, dictOf [⟨PyData.keyHash w.params (PySem.Str.ofString "form"), .str (PySem.Str.ofString "form") t1, .int 2 tf⟩, ⟨PyData.keyHash w.params (PySem.Str.ofString "is_chained"), .str (PySem.Str.ofString "is_chained") t2, .bool true⟩, ⟨PyData.keyHash w.params (PySem.Str.ofString "sets"), .str (PySem.Str.ofString "sets") t3, v3⟩, ⟨PyData.keyHash w.params (PySem.Str.ofString "coverage"), .str (PySem.Str.ofString "coverage") t4, v4⟩, ⟨PyData.keyHash w.params (PySem.Str.ofString "classes"), .str (PySem.Str.ofString "classes") t5, .ref cl⟩] 5) ∈ news) (h3 : (cl, tupO [.ref no, .ref no, .ref no] n) ∈ news)
    (g1 : (ru, instObj 438 rd) ∈ news) (g2 : (rd, dictOf [⟨PyData.keyHash w.params (PySem.Str.ofString "back"), .str (PySem.Str.ofString "back") s1, .ref e1⟩, ⟨PyData.keyHash w.params (PySem.Str.ofString "inside"), .str (PySem.Str.ofString "inside") s2, .ref i1⟩, ⟨PyData.keyHash w.params (PySem.Str.ofString "ahead"), .str (PySem.Str.ofString "ahead") s3, .ref e2⟩, ⟨PyData.keyHash w.params (PySem.Str.ofString "actions"), .str (PySem.Str.ofString "actions") s4, .ref act⟩] 4) ∈ news) (g3 : (e1, tupO [] n1) ∈ news) (g4 : (i1, tupO [.int 0 t] n2) ∈ news) (g5 : (e2, tupO [] n3) ∈ news) :
    Con w mean mg mb 500 10 340 [.ref tb, .ref ru] news (fun kq => ∀ T B I A q tc, (∀ p ∈ news, p.1 ≠ T) → (∀ p ∈ news, p.1 ≠ B) → (∀ p ∈ news, p.1 ≠ I) → (∀ p ∈ news, p.1 ≠ A) → (∀ p ∈ news, p.1 ≠ q) → kq (.ref T) ((T, tupO [.ref B, .ref I, .ref A, .ref act] 0) :: (B, listOf #[] 0) :: (I, listOf #[.ref q] 1) :: (q, tupO [.str (PySem.Str.ofString "class") tc, .ref no, .int 0 t] 0) :: (A, listOf #[] 0) :: news)) := by
  unfold Con
  have hfill : (PySem.Challenge.rw_pf0148_01, hd.heap_39) = (PySem.Challenge.rw_pf0148_01, hd.heap_39) := rfl
  intro dp un gd nm cs a ccd cl outer A₀ base h₀ L m s Q E B F X N T hk hdp hun hret
  revert hfill
  k_fill
  intro hfill; clear hfill
  have hMk := kstMark
  k_with_none
  refine wpAny_call ?_
  k_dflt ktr_enter
  (k_steps; (all_goals (try ((with_reducible refine unheld ?_); (first | (refine' con_use ?k1_26 ?k2_26 ?k3_26 ?k4_26 ?k5_26 ?kK_26 ?kd_26 ?ku_26 (c_tests1 _ _ _ _ _ _ _ _ _ _ ?m1_26) ?_; (case k1_26 => k_asm); (case k2_26 => k_asm); (case k3_26 => k_asm); (case k4_26 => k_asm); (case k5_26 => k_asm); (case kK_26 => first | exact rfl | assumption); (case m1_26 => k_mem); (case kd_26 => ktr_room); (case ku_26 => ktr_units); k_whole;  intro r9z q9z t9z o9z u9z x9z h9z tk9z F9z N9z; (try dsimp only); (try k_fold)) | (refine' con_use ?k1_27 ?k2_27 ?k3_27 ?k4_27 ?k5_27 ?kK_27 ?kd_27 ?ku_27 (c_tests0 _ _ _ _ _ _ _ _ _ ?m1_27) ?_; (case k1_27 => k_asm); (case k2_27 => k_asm); (case k3_27 => k_asm); (case k4_27 => k_asm); (case k5_27 => k_asm); (case kK_27 => first | exact rfl | assumption); (case m1_27 => k_mem); (case kd_27 => ktr_room); (case ku_27 => ktr_units); k_whole;  intro r9z o9z h9z tk9z F9z N9z; (try dsimp only); (try k_fold)) | fin_once hold walk1 | fail); (try k_steps)))); (all_goals (try ((with_reducible refine unheld ?_); (first | (refine' con_use ?k1_28 ?k2_28 ?k3_28 ?k4_28 ?k5_28 ?kK_28 ?kd_28 ?ku_28 (c_tests1 _ _ _ _ _ _ _ _ _ _ ?m1_28) ?_; (case k1_28 => k_asm); (case k2_28 => k_asm); (case k3_28 => k_asm); (case k4_28 => k_asm); (case k5_28 => k_asm); (case kK_28 => first | exact rfl | assumption); (case m1_28 => k_mem); (case kd_28 => ktr_room); (case ku_28 => ktr_units); k_whole;  intro r9z q9z t9z o9z u9z x9z h9z tk9z F9z N9z; (try dsimp only); (try k_fold)) | (refine' con_use ?k1_29 ?k2_29 ?k3_29 ?k4_29 ?k5_29 ?kK_29 ?kd_29 ?ku_29 (c_tests0 _ _ _ _ _ _ _ _ _ ?m1_29) ?_; (case k1_29 => k_asm); (case k2_29 => k_asm); (case k3_29 => k_asm); (case k4_29 => k_asm); (case k5_29 => k_asm); (case kK_29 => first | exact rfl | assumption); (case m1_29 => k_mem); (case kd_29 => ktr_room); (case ku_29 => ktr_units); k_whole;  intro r9z o9z h9z tk9z F9z N9z; (try dsimp only); (try k_fold)) | fin_once hold walk1 | fail); (try k_steps)))); (all_goals (try ((with_reducible refine unheld ?_); (first | (refine' con_use ?k1_30 ?k2_30 ?k3_30 ?k4_30 ?k5_30 ?kK_30 ?kd_30 ?ku_30 (c_tests1 _ _ _ _ _ _ _ _ _ _ ?m1_30) ?_; (case k1_30 => k_asm); (case k2_30 => k_asm); (case k3_30 => k_asm); (case k4_30 => k_asm); (case k5_30 => k_asm); (case kK_30 => first | exact rfl | assumption); (case m1_30 => k_mem); (case kd_30 => ktr_room); (case ku_30 => ktr_units); k_whole;  intro r9z q9z t9z o9z u9z x9z h9z tk9z F9z N9z; (try dsimp only); (try k_fold)) | (refine' con_use ?k1_31 ?k2_31 ?k3_31 ?k4_31 ?k5_31 ?kK_31 ?kd_31 ?ku_31 (c_tests0 _ _ _ _ _ _ _ _ _ ?m1_31) ?_; (case k1_31 => k_asm); (case k2_31 => k_asm); (case k3_31 => k_asm); (case k4_31 => k_asm); (case k5_31 => k_asm); (case kK_31 => first | exact rfl | assumption); (case m1_31 => k_mem); (case kd_31 => ktr_room); (case ku_31 => ktr_units); k_whole;  intro r9z o9z h9z tk9z F9z N9z; (try dsimp only); (try k_fold)) | fin_once hold walk1 | fail); (try k_steps)))); (all_goals (try ((with_reducible refine unheld ?_); (first | (refine' con_use ?k1_32 ?k2_32 ?k3_32 ?k4_32 ?k5_32 ?kK_32 ?kd_32 ?ku_32 (c_tests1 _ _ _ _ _ _ _ _ _ _ ?m1_32) ?_; (case k1_32 => k_asm); (case k2_32 => k_asm); (case k3_32 => k_asm); (case k4_32 => k_asm); (case k5_32 => k_asm); (case kK_32 => first | exact rfl | assumption); (case m1_32 => k_mem); (case kd_32 => ktr_room); (case ku_32 => ktr_units); k_whole;  intro r9z q9z t9z o9z u9z x9z h9z tk9z F9z N9z; (try dsimp only); (try k_fold)) | (refine' con_use ?k1_33 ?k2_33 ?k3_33 ?k4_33 ?k5_33 ?kK_33 ?kd_33 ?ku_33 (c_tests0 _ _ _ _ _ _ _ _ _ ?m1_33) ?_; (case k1_33 => k_asm); (case k2_33 => k_asm); (case k3_33 => k_asm); (case k4_33 => k_asm); (case k5_33 => k_asm); (case kK_33 => first | exact rfl | assumption); (case m1_33 => k_mem); (case kd_33 => ktr_room); (case ku_33 => ktr_units); k_whole;  intro r9z o9z h9z tk9z F9z N9z; (try dsimp only); (try k_fold)) | fin_once hold walk1 | fail); (try k_steps)))))
  refine' hret _ _ _ _ _ _ ?z1 ?z2 ?z3 ?z4 ?z5 _ _ (by k_asm) (cb_drop (by assumption) ?zd)
  case zd => walk_at "SUB"
  all_goals (walk_at "NE")
end
section
local macro_rules | `(tactic| walk_at "eval ListComp") => `(tactic| walk_at "LC2")
local macro_rules | `(tactic| walk_at "CompSrc") => `(tactic| walk_at "CSRC")
local macro_rules | `(tactic| walk_at "call ref") => `(tactic| walk_at "HOLD")
local macro_rules | `(tactic| walk_at "call builtin:dict.get") => `(tactic| walk_at "HOLD")
local macro_rules | `(tactic| walk_at "getMethod ref") => `(tactic| walk_at "HOLD")
set_option maxHeartbeats 8000000 in
theorem c_rules (w : World) (mean mg mb) (news : Led) (tb act : Addr) (g : Int) (tg : Tok) (ht : TabIn w news tb act) (hg0 : 10 ≤ g) (hg1 : g < 280) :
    Con w mean mg mb 505 14 380 [.ref tb, .int g tg] news (fun kq => ∀ R T B I A q no t tc, NoneIn w news no → (∀ p ∈ news, p.1 ≠ R) → (∀ p ∈ news, p.1 ≠ T) → (∀ p ∈ news, p.1 ≠ B) → (∀ p ∈ news, p.1 ≠ I) → (∀ p ∈ news, p.1 ≠ A) → (∀ p ∈ news, p.1 ≠ q) → kq (.ref R) ((R, listOf #[.ref T] 1) :: (T, tupO [.ref B, .ref I, .ref A, .ref act] 0) :: (B, listOf #[] 0) :: (I, listOf #[.ref q] 1) :: (q, tupO [.str (PySem.Str.ofString "class") tc, .ref no, .int 0 t] 0) :: (A, listOf #[] 0) :: news)) := by
  refine ht.elim fun td st rl ru cov cls no o cnt n TT h1 h2 h3 h4 h5 h6 hru hco h9 hno => ?_
  refine hru.elim fun rd e1 i1 e2 CR TR g1 g2 g3 g4 g5 => ?_
  refine hco.elim fun cd gt gvs cn t0 c1 c2 c3 c4 => ?_
  refine hno.elim fun nd nc no9 nt d1 d2 d3 d4 d5 => ?_
  unfold Con
  have hfill : (PySem.Challenge.rw_pf0148_01, hd.heap_39) = (PySem.Challenge.rw_pf0148_01, hd.heap_39) := rfl
  intro dp un gd nm cs a ccd cl outer A₀ base h₀ L m s Q E B F X N T hk hdp hun hret
  revert hfill
  k_fill
  intro hfill; clear hfill
  have hMk := kstMark
  k_with_none
  refine wpAny_call ?_
  k_dflt (refine' code_defC ?k1 ?k2 ?k3 ?k4 ?k5 ?kA ?kF ?kK ?k6 ?k7 ?k8 ?k9 ?kB ?kD ?_ ?c2 ?c3 ?c4; (case kA => exact rfl); (case kF => exact rfl); (case kK => assumption); (case k1 => k_asm); (case k2 => k_asm); (case k3 => k_asm); (case k4 => k_asm); (case k5 => k_asm); (case k6 => k_is); (case k7 => k_is); (case k8 => ktr_room); (case k9 => exact BindsTo.of_eq rfl); (case kB => exact rfl); (case kD => decide +kernel); (case c2 => exact rfl); (case c3 => exact rfl); (case c4 => exact rfl); k_whole; intro g' L' h' tk' cells' FG' F' N' Y' B' X' T' l1; (try k_lt l1); k_cells Y'; (try simp only [List.cons_append, List.nil_append] at N'); (try dsimp only); (try k_fold))
  (k_steps; (all_goals (try ((with_reducible refine unheld ?_); (first | (k_here; (with_reducible show wpAny _ _ (getMethod _ (PySem.Str.ofString "get") _) _ _ _); k_dflt (refine' kdg_method (knd := PySem.intKind _ _) ?k1_34 ?k2_34 ?k3_34 ?_; (case k1_34 => k_asm); (case k2_34 => k_mem); (case k3_34 => assumption)); k_whole) | (k_here; k_dflt (refine' kdg_get2 (knd := PySem.intKind _ _) ?k1_35 ?k2_35 ?k3_35 ?k4_35 ?k5_35 _ ?k6_35 ?_; (case k1_35 => k_asm); (case k2_35 => k_mem); (case k3_35 => assumption); (case k4_35 => assumption); (case k5_35 => exact intKind_is _ _ _ _); (case k6_35 => rfl)); (try dsimp only [Option.getD])) | (refine' con_use ?k1_36 ?k2_36 ?k3_36 ?k4_36 ?k5_36 ?kK_36 ?kd_36 ?ku_36 (c_rule_tests _ _ _ _ _ _ _ _ _ _ _ _ _ _ _ _ _ _ _ _ _ _ _ _ _ _ _ _ _ _ _ _ ?m1_36 ?m2_36 ?m3_36 ?m4_36 ?m5_36 ?m6_36 ?m7_36 ?m8_36) ?_; (case k1_36 => k_asm); (case k2_36 => k_asm); (case k3_36 => k_asm); (case k4_36 => k_asm); (case k5_36 => k_asm); (case kK_36 => first | exact rfl | assumption); (case m1_36 => k_mem); (case m2_36 => k_mem); (case m3_36 => k_mem); (case m4_36 => k_mem); (case m5_36 => k_mem); (case m6_36 => k_mem); (case m7_36 => k_mem); (case m8_36 => k_mem); (case kd_36 => ktr_room); (case ku_36 => ktr_units); k_whole;  intro T9z B9z I9z A9z q9z t9z o1z o2z o3z o4z o5z h9z tk9z F9z N9z; (try dsimp only); (try k_fold)) | (refine' con_use ?k1_37 ?k2_37 ?k3_37 ?k4_37 ?k5_37 ?kK_37 ?kd_37 ?ku_37 (c_cls _ _ _ _ _ _ _ _ ?b1_37) ?_; (case k1_37 => k_asm); (case k2_37 => k_asm); (case k3_37 => k_asm); (case k4_37 => k_asm); (case k5_37 => k_asm); (case kK_37 => first | exact rfl | assumption); (case b1_37 => (walk_at "BUND")); (case kd_37 => ktr_room); (case ku_37 => ktr_units); k_whole;  intro t9z h9z tk9z F9z N9z; (try dsimp only); (try k_fold)) | (refine' con_use ?k1_38 ?k2_38 ?k3_38 ?k4_38 ?k5_38 ?kK_38 ?kd_38 ?ku_38 (c_has _ _ _ _ _ _ _ _ _ _ _ _ _ ?m1_38 ?m2_38 ?m3_38 ?a1_38) ?_; (case k1_38 => k_asm); (case k2_38 => k_asm); (case k3_38 => k_asm); (case k4_38 => k_asm); (case k5_38 => k_asm); (case kK_38 => first | exact rfl | assumption); (case m1_38 => k_mem); (case m2_38 => k_mem); (case m3_38 => k_mem); (case a1_38 => assumption); (case kd_38 => ktr_room); (case ku_38 => ktr_units); k_whole;  intro  h9z tk9z F9z N9z; (try dsimp only); (try k_fold)) | fin_once hold walk1 | fail); (try k_steps)))); (all_goals (try ((with_reducible refine unheld ?_); (first | (k_here; (with_reducible show wpAny _ _ (getMethod _ (PySem.Str.ofString "get") _) _ _ _); k_dflt (refine' kdg_method (knd := PySem.intKind _ _) ?k1_39 ?k2_39 ?k3_39 ?_; (case k1_39 => k_asm); (case k2_39 => k_mem); (case k3_39 => assumption)); k_whole) | (k_here; k_dflt (refine' kdg_get2 (knd := PySem.intKind _ _) ?k1_40 ?k2_40 ?k3_40 ?k4_40 ?k5_40 _ ?k6_40 ?_; (case k1_40 => k_asm); (case k2_40 => k_mem); (case k3_40 => assumption); (case k4_40 => assumption); (case k5_40 => exact intKind_is _ _ _ _); (case k6_40 => rfl)); (try dsimp only [Option.getD])) | (refine' con_use ?k1_41 ?k2_41 ?k3_41 ?k4_41 ?k5_41 ?kK_41 ?kd_41 ?ku_41 (c_rule_tests _ _ _ _ _ _ _ _ _ _ _ _ _ _ _ _ _ _ _ _ _ _ _ _ _ _ _ _ _ _ _ _ ?m1_41 ?m2_41 ?m3_41 ?m4_41 ?m5_41 ?m6_41 ?m7_41 ?m8_41) ?_; (case k1_41 => k_asm); (case k2_41 => k_asm); (case k3_41 => k_asm); (case k4_41 => k_asm); (case k5_41 => k_asm); (case kK_41 => first | exact rfl | assumption); (case m1_41 => k_mem); (case m2_41 => k_mem); (case m3_41 => k_mem); (case m4_41 => k_mem); (case m5_41 => k_mem); (case m6_41 => k_mem); (case m7_41 => k_mem); (case m8_41 => k_mem); (case kd_41 => ktr_room); (case ku_41 => ktr_units); k_whole;  intro T9z B9z I9z A9z q9z t9z o1z o2z o3z o4z o5z h9z tk9z F9z N9z; (try dsimp only); (try k_fold)) | (refine' con_use ?k1_42 ?k2_42 ?k3_42 ?k4_42 ?k5_42 ?kK_42 ?kd_42 ?ku_42 (c_cls _ _ _ _ _ _ _ _ ?b1_42) ?_; (case k1_42 => k_asm); (case k2_42 => k_asm); (case k3_42 => k_asm); (case k4_42 => k_asm); (case k5_42 => k_asm); (case kK_42 => first | exact rfl | assumption); (case b1_42 => (walk_at "BUND")); (case kd_42 => ktr_room); (case ku_42 => ktr_units); k_whole;  intro t9z h9z tk9z F9z N9z; (try dsimp only); (try k_fold)) | (refine' con_use ?k1_43 ?k2_43 ?k3_43 ?k4_43 ?k5_43 ?kK_43 ?kd_43 ?ku_43 (c_has _ _ _ _ _ _ _ _ _ _ _ _ _ ?m1_43 ?m2_43 ?m3_43 ?a1_43) ?_; (case k1_43 => k_asm); (case k2_43 => k_asm); (case k3_43 => k_asm); (case k4_43 => k_asm); (case k5_43 => k_asm); (case kK_43 => first | exact rfl | assumption); (case m1_43 => k_mem); (case m2_43 => k_mem); (case m3_43 => k_mem); (case a1_43 => assumption); (case kd_43 => ktr_room); (case ku_43 => ktr_units); k_whole;  intro  h9z tk9z F9z N9z; (try dsimp only); (try k_fold)) | fin_once hold walk1 | fail); (try k_steps)))); (all_goals (try ((with_reducible refine unheld ?_); (first | (k_here; (with_reducible show wpAny _ _ (getMethod _ (PySem.Str.ofString "get") _) _ _ _); k_dflt (refine' kdg_method (knd := PySem.intKind _ _) ?k1_44 ?k2_44 ?k3_44 ?_; (case k1_44 => k_asm); (case k2_44 => k_mem); (case k3_44 => assumption)); k_whole) | (k_here; k_dflt (refine' kdg_get2 (knd := PySem.intKind _ _) ?k1_45 ?k2_45 ?k3_45 ?k4_45 ?k5_45 _ ?k6_45 ?_; (case k1_45 => k_asm); (case k2_45 => k_mem); (case k3_45 => assumption); (case k4_45 => assumption); (case k5_45 => exact intKind_is _ _ _ _); (case k6_45 => rfl)); (try dsimp only [Option.getD])) | (refine' con_use ?k1_46 ?k2_46 ?k3_46 ?k4_46 ?k5_46 ?kK_46 ?kd_46 ?ku_46 (c_rule_tests _ _ _ _ _ _ _ _ _ _ _ _ _ _ _ _ _ _ _ _ _ _ _ _ _ _ _ _ _ _ _ _ ?m1_46 ?m2_46 ?m3_46 ?m4_46 ?m5_46 ?m6_46 ?m7_46 ?m8_46) ?_; (case k1_46 => k_asm); (case k2_46 => k_asm); (case k3_46 => k_asm); (case k4_46 => k_asm); (case k5_46 => k_asm); (case kK_46 => first | exact rfl | assumption); (case m1_46 => k_mem); (case m2_46 => k_mem); (case m3_46 => k_mem); (case m4_46 => k_mem); (case m5_46 => k_mem); (case m6_46 => k_mem); (case m7_46 => k_mem); (case m8_46 => k_mem); (case kd_46 => ktr_room); (case ku_46 => ktr_units); k_whole;  intro T9z B9z I9z A9z q9z t9z o1z o2z o3z o4z o5z h9z tk9z F9z N9z; (try dsimp only); (try k_fold)) | (refine' con_use ?k1_47 ?k2_47 ?k3_47 ?k4_47 ?k5_47 ?kK_47 ?kd_47 ?ku_47 (c_cls _ _ _ _ _ _ _ _ ?b1_47) ?_; (case k1_47 => k_asm); (case k2_47 => k_asm); (case k3_47 => k_asm); (case k4_47 => k_asm); (case k5_47 => k_asm); (case kK_47 => first | exact rfl | assumption); (case b1_47 => (walk_at "BUND")); (case kd_47 => ktr_room); (case ku_47 => ktr_units); k_whole;  intro t9z h9z tk9z F9z N9z; (try dsimp only); (try k_fold)) | (refine' con_use ?k1_48 ?k2_48 ?k3_48 ?k4_48 ?k5_48 ?kK_48 ?kd_48 ?ku_48 (c_has _ _ _ _ _ _ _ _ _ _ _ _ _ ?m1_48 ?m2_48 ?m3_48 ?a1_48) ?_; (case k1_48 => k_asm); (case k2_48 => k_asm); (case k3_48 => k_asm); (case k4_48 => k_asm); (case k5_48 => k_asm); (case kK_48 => first | exact rfl | assumption); (case m1_48 => k_mem); (case m2_48 => k_mem); (case m3_48 => k_mem); (case a1_48 => assumption); (case kd_48 => ktr_room); (case ku_48 => ktr_units); k_whole;  intro  h9z tk9z F9z N9z; (try dsimp only); (try k_fold)) | fin_once hold walk1 | fail); (try k_steps)))); (all_goals (try ((with_reducible refine unheld ?_); (first | (k_here; (with_reducible show wpAny _ _ (getMethod _ (PySem.Str.ofString "get") _) _ _ _); k_dflt (refine' kdg_method (knd := PySem.intKind _ _) ?k1_49 ?k2_49 ?k3_49 ?_; (case k1_49 => k_asm); (case k2_49 => k_mem); (case k3_49 => assumption)); k_whole) | (k_here; k_dflt (refine' kdg_get2 (knd := PySem.intKind _ _) ?k1_50 ?k2_50 ?k3_50 ?k4_50 ?k5_50 _ ?k6_50 ?_; (case k1_50 => k_asm); (case k2_50 => k_mem); (case k3_50 => assumption); (case k4_50 => assumption); (case k5_50 => exact intKind_is _ _ _ _); (case k6_50 => rfl)); (try dsimp only [Option.getD])) | (refine' con_use ?k1_51 ?k2_51 ?k3_51 ?k4_51 ?k5_51 ?kK_51 ?kd_51 ?ku_51 (c_rule_tests _ _ _ _ _ _ _ _ _ _ _ _ _ _ _ _ _ _ _ _ _ _ _ _ _ _ _ _ _ _ _ _ ?m1_51 ?m2_51 ?m3_51 ?m4_51 ?m5_51 ?m6_51 ?m7_51 ?m8_51) ?_; (case k1_51 => k_asm); (case k2_51 => k_asm); (case k3_51 => k_asm); (case k4_51 => k_asm); (case k5_51 => k_asm); (case kK_51 => first | exact rfl | assumption); (case m1_51 => k_mem); (case m2_51 => k_mem); (case m3_51 => k_mem); (case m4_51 => k_mem); (case m5_51 => k_mem); (case m6_51 => k_mem); (case m7_51 => k_mem); (case m8_51 => k_mem); (case kd_51 => ktr_room); (case ku_51 => ktr_units); k_whole;  intro T9z B9z I9z A9z q9z t9z o1z o2z o3z o4z o5z h9z tk9z F9z N9z; (try dsimp only); (try k_fold)) | (refine' con_use ?k1_52 ?k2_52 ?k3_52 ?k4_52 ?k5_52 ?kK_52 ?kd_52 ?ku_52 (c_cls _ _ _ _ _ _ _ _ ?b1_52) ?_; (case k1_52 => k_asm); (case k2_52 => k_asm); (case k3_52 => k_asm); (case k4_52 => k_asm); (case k5_52 => k_asm); (case kK_52 => first | exact rfl | assumption); (case b1_52 => (walk_at "BUND")); (case kd_52 => ktr_room); (case ku_52 => ktr_units); k_whole;  intro t9z h9z tk9z F9z N9z; (try dsimp only); (try k_fold)) | (refine' con_use ?k1_53 ?k2_53 ?k3_53 ?k4_53 ?k5_53 ?kK_53 ?kd_53 ?ku_53 (c_has _ _ _ _ _ _ _ _ _ _ _ _ _ ?m1_53 ?m2_53 ?m3_53 ?a1_53) ?_; (case k1_53 => k_asm); (case k2_53 => k_asm); (case k3_53 => k_asm); (case k4_53 => k_asm); (case k5_53 => k_asm); (case kK_53 => first | exact rfl | assumption); (case m1_53 => k_mem); (case m2_53 => k_mem); (case m3_53 => k_mem); (case a1_53 => assumption); (case kd_53 => ktr_room); (case ku_53 => ktr_units); k_whole;  intro  h9z tk9z F9z N9z; (try dsimp only); (try k_fold)) | fin_once hold walk1 | fail); (try k_steps)))); (all_goals (try ((with_reducible refine unheld ?_); (first | (k_here; (with_reducible show wpAny _ _ (getMethod _ (PySem.Str.ofString "get") _) _ _ _); k_dflt (refine' kdg_method (knd := PySem.intKind _ _) ?k1_54 ?k2_54 ?k3_54 ?_; (case k1_54 => k_asm); (case k2_54 => k_mem); (case k3_54 => assumption)); k_whole) | (k_here; k_dflt (refine' kdg_get2 (knd := PySem.intKind _ _) ?k1_55 ?k2_55 ?k3_55 ?k4_55 ?k5_55 _ ?k6_55 ?_; (case k1_55 => k_asm); (case k2_55 => k_mem); (case k3_55 => assumption); (case k4_55 => assumption); (case k5_55 => exact intKind_is _ _ _ _); (case k6_55 => rfl)); (try dsimp only [Option.getD])) | (refine' con_use ?k1_56 ?k2_56 ?k3_56 ?k4_56 ?k5_56 ?kK_56 ?kd_56 ?ku_56 (c_rule_tests _ _ _ _ _ _ _ _ _ _ _ _ _ _ _ _ _ _ _ _ _ _ _ _ _ _ _ _ _ _ _ _ ?m1_56 ?m2_56 ?m3_56 ?m4_56 ?m5_56 ?m6_56 ?m7_56 ?m8_56) ?_; (case k1_56 => k_asm); (case k2_56 => k_asm); (case k3_56 => k_asm); (case k4_56 => k_asm); (case k5_56 => k_asm); (case kK_56 => first | exact rfl | assumption); (case m1_56 => k_mem); (case m2_56 => k_mem); (case m3_56 => k_mem); (case m4_56 => k_mem); (case m5_56 => k_mem); (case m6_56 => k_mem); (case m7_56 => k_mem); (case m8_56 => k_mem); (case kd_56 => ktr_room); (case ku_56 => ktr_units); k_whole;  intro T9z B9z I9z A9z q9z t9z o1z o2z o3z o4z o5z h9z tk9z F9z N9z; (try dsimp only); (try k_fold)) | (refine' con_use ?k1_57 ?k2_57 ?k3_57 ?k4_57 ?k5_57 ?kK_57 ?kd_57 ?ku_57 (c_cls _ _ _ _ _ _ _ _ ?b1_57) ?_; (case k1_57 => k_asm); (case k2_57 => k_asm); (case k3_57 => k_asm); (case k4_57 => k_asm); (case k5_57 => k_asm); (case kK_57 => first | exact rfl | assumption); (case b1_57 => (walk_at "BUND")); (case kd_57 => ktr_room); (case ku_57 => ktr_units); k_whole;  intro t9z h9z tk9z F9z N9z; (try dsimp only); (try k_fold)) | (refine' con_use ?k1_58 ?k2_58 ?k3_58 ?k4_58 ?k5_58 ?kK_58 ?kd_58 ?ku_58 (c_has _ _ _ _ _ _ _ _ _ _ _ _ _ ?m1_58 ?m2_58 ?m3_58 ?a1_58) ?_; (case k1_58 => k_asm); (case k2_58 => k_asm); (case k3_58 => k_asm); (case k4_58 => k_asm); (case k5_58 => k_asm); (case kK_58 => first | exact rfl | assumption); (case m1_58 => k_mem); (case m2_58 => k_mem); (case m3_58 => k_mem); (case a1_58 => assumption); (case kd_58 => ktr_room); (case ku_58 => ktr_units); k_whole;  intro  h9z tk9z F9z N9z; (try dsimp only); (try k_fold)) | fin_once hold walk1 | fail); (try k_steps)))); (all_goals (try ((with_reducible refine unheld ?_); (first | (k_here; (with_reducible show wpAny _ _ (getMethod _ (PySem.Str.ofString "get") _) _ _ _); k_dflt (refine' kdg_method (knd := PySem.intKind _ _) ?k1_59 ?k2_59 ?k3_59 ?_; (case k1_59 => k_asm); (case k2_59 => k_mem); (case k3_59 => assumption)); k_whole) | (k_here; k_dflt (refine' kdg_get2 (knd := PySem.intKind _ _) ?k1_60 ?k2_60 ?k3_60 ?k4_60 ?k5_60 _ ?k6_60 ?_; (case k1_60 => k_asm); (case k2_60 => k_mem); (case k3_60 => assumption); (case k4_60 => assumption); (case k5_60 => exact intKind_is _ _ _ _); (case k6_60 => rfl)); (try dsimp only [Option.getD])) | (refine' con_use ?k1_61 ?k2_61 ?k3_61 ?k4_61 ?k5_61 ?kK_61 ?kd_61 ?ku_61 (c_rule_tests _ _ _ _ _ _ _ _ _ _ _ _ _ _ _ _ _ _ _ _ _ _ _ _ _ _ _ _ _ _ _ _ ?m1_61 ?m2_61 ?m3_61 ?m4_61 ?m5_61 ?m6_61 ?m7_61 ?m8_61) ?_; (case k1_61 => k_asm); (case k2_61 => k_asm); (case k3_61 => k_asm); (case k4_61 => k_asm); (case k5_61 => k_asm); (case kK_61 => first | exact rfl | assumption); (case m1_61 => k_mem); (case m2_61 => k_mem); (case m3_61 => k_mem); (case m4_61 => k_mem); (case m5_61 => k_mem); (case m6_61 => k_mem); (case m7_61 => k_mem); (case m8_61 => k_mem); (case kd_61 => ktr_room); (case ku_61 => ktr_units); k_whole;  intro T9z B9z I9z A9z q9z t9z o1z o2z o3z o4z o5z h9z tk9z F9z N9z; (try dsimp only); (try k_fold)) | (refine' con_use ?k1_62 ?k2_62 ?k3_62 ?k4_62 ?k5_62 ?kK_62 ?kd_62 ?ku_62 (c_cls _ _ _ _ _ _ _ _ ?b1_62) ?_; (case k1_62 => k_asm); (case k2_62 => k_asm); (case k3_62 => k_asm); (case k4_62 => k_asm); (case k5_62 => k_asm); (case kK_62 => first | exact rfl | assumption); (case b1_62 => (walk_at "BUND")); (case kd_62 => ktr_room); (case ku_62 => ktr_units); k_whole;  intro t9z h9z tk9z F9z N9z; (try dsimp only); (try k_fold)) | (refine' con_use ?k1_63 ?k2_63 ?k3_63 ?k4_63 ?k5_63 ?kK_63 ?kd_63 ?ku_63 (c_has _ _ _ _ _ _ _ _ _ _ _ _ _ ?m1_63 ?m2_63 ?m3_63 ?a1_63) ?_; (case k1_63 => k_asm); (case k2_63 => k_asm); (case k3_63 => k_asm); (case k4_63 => k_asm); (case k5_63 => k_asm); (case kK_63 => first | exact rfl | assumption); (case m1_63 => k_mem); (case m2_63 => k_mem); (case m3_63 => k_mem); (case a1_63 => assumption); (case kd_63 => ktr_room); (case ku_63 => ktr_units); k_whole;  intro  h9z tk9z F9z N9z; (try dsimp only); (try k_fold)) | fin_once hold walk1 | fail); (try k_steps)))); (all_goals (try ((with_reducible refine unheld ?_); (first | (k_here; (with_reducible show wpAny _ _ (getMethod _ (PySem.Str.ofString "get") _) _ _ _); k_dflt (refine' kdg_method (knd := PySem.intKind _ _) ?k1_64 ?k2_64 ?k3_64 ?_; (case k1_64 => k_asm); (case k2_64 => k_mem); (case k3_64 => assumption)); k_whole) | (k_here; k_dflt (refine' kdg_get2 (knd := PySem.intKind _ _) ?k1_65 ?k2_65 ?k3_65 ?k4_65 ?k5_65 _ ?k6_65 ?_; (case k1_65 => k_asm); (case k2_65 => k_mem); (case k3_65 => assumption); (case k4_65 => assumption); (case k5_65 => exact intKind_is _ _ _ _); (case k6_65 => rfl)); (try dsimp only [Option.getD])) | (refine' con_use ?k1_66 ?k2_66 ?k3_66 ?k4_66 ?k5_66 ?kK_66 ?kd_66 ?ku_66 (c_rule_tests _ _ _ _ _ _ _ _ _ _ _ _ _ _ _ _ _ _ _ _ _ _ _ _ _ _ _ _ _ _ _ _ ?m1_66 ?m2_66 ?m3_66 ?m4_66 ?m5_66 ?m6_66 ?m7_66 ?m8_66) ?_; (case k1_66 => k_asm); (case k2_66 => k_asm); (case k3_66 => k_asm); (case k4_66 => k_asm); (case k5_66 => k_asm); (case kK_66 => first | exact rfl | assumption); (case m1_66 => k_mem); (case m2_66 => k_mem); (case m3_66 => k_mem); (case m4_66 => k_mem); (case m5_66 => k_mem); (case m6_66 => k_mem); (case m7_66 => k_mem); (case m8_66 => k_mem); (case kd_66 => ktr_room); (case ku_66 => ktr_units); k_whole;  intro T9z B9z I9z A9z q9z t9z o1z o2z o3z o4z o5z h9z tk9z F9z N9z; (try dsimp only); (try k_fold)) | (refine' con_use ?k1_67 ?k2_67 ?k3_67 ?k4_67 ?k5_67 ?kK_67 ?kd_67 ?ku_67 (c_cls _ _ _ _ _ _ _ _ ?b1_67) ?_; (case k1_67 => k_asm); (case k2_67 => k_asm); (case k3_67 => k_asm); (case k4_67 => k_asm); (case k5_67 => k_asm); (case kK_67 => first | exact rfl | assumption); (case b1_67 => (walk_at "BUND")); (case kd_67 => ktr_room); (case ku_67 => ktr_units); k_whole;  intro t9z h9z tk9z F9z N9z; (try dsimp only); (try k_fold)) | (refine' con_use ?k1_68 ?k2_68 ?k3_68 ?k4_68 ?k5_68 ?kK_68 ?kd_68 ?ku_68 (c_has _ _ _ _ _ _ _ _ _ _ _ _ _ ?m1_68 ?m2_68 ?m3_68 ?a1_68) ?_; (case k1_68 => k_asm); (case k2_68 => k_asm); (case k3_68 => k_asm); (case k4_68 => k_asm); (case k5_68 => k_asm); (case kK_68 => first | exact rfl | assumption); (case m1_68 => k_mem); (case m2_68 => k_mem); (case m3_68 => k_mem); (case a1_68 => assumption); (case kd_68 => ktr_room); (case ku_68 => ktr_units); k_whole;  intro  h9z tk9z F9z N9z; (try dsimp only); (try k_fold)) | fin_once hold walk1 | fail); (try k_steps)))); (all_goals (try ((with_reducible refine unheld ?_); (first | (k_here; (with_reducible show wpAny _ _ (getMethod _ (PySem.Str.ofString "get") _) _ _ _); k_dflt (refine' kdg_method (knd := PySem.intKind _ _) ?k1_69 ?k2_69 ?k3_69 ?_; (case k1_69 => k_asm); (case k2_69 => k_mem); (case k3_69 => assumption)); k_whole) | (k_here; k_dflt (refine' kdg_get2 (knd := PySem.intKind _ _) ?k1_70 ?k2_70 ?k3_70 ?k4_70 ?k5_70 _ ?k6_70 ?_; (case k1_70 => k_asm); (case k2_70 => k_mem); (case k3_70 => assumption); (case k4_70 => assumption); (case k5_70 => exact intKind_is _ _ _ _); (case k6_70 => rfl)); (try dsimp only [Option.getD])) | (refine' con_use ?k1_71 ?k2_71 ?k3_71 ?k4_71 ?k5_71 ?kK_71 ?kd_71 ?ku_71 (c_rule_tests _ _ _ _ _ _ _ _ _ _ _ _ _ _ _ _ _ _ _ _ _ _ _ _ _ _ _ _ _ _ _ _ ?m1_71 ?m2_71 ?m3_71 ?m4_71 ?m5_71 ?m6_71 ?m7_71 ?m8_71) ?_; (case k1_71 => k_asm); (case k2_71 => k_asm); (case k3_71 => k_asm); (case k4_71 => k_asm); (case k5_71 => k_asm); (case kK_71 => first | exact rfl | assumption); (case m1_71 => k_mem); (case m2_71 => k_mem); (case m3_71 => k_mem); (case m4_71 => k_mem); (case m5_71 => k_mem); (case m6_71 => k_mem); (case m7_71 => k_mem); (case m8_71 => k_mem); (case kd_71 => ktr_room); (case ku_71 => ktr_units); k_whole;  intro T9z B9z I9z A9z q9z t9z o1z o2z o3z o4z o5z h9z tk9z F9z N9z; (try dsimp only); (try k_fold)) | (refine' con_use ?k1_72 ?k2_72 ?k3_72 ?k4_72 ?k5_72 ?kK_72 ?kd_72 ?ku_72 (c_cls _ _ _ _ _ _ _ _ ?b1_72) ?_; (case k1_72 => k_asm); (case k2_72 => k_asm); (case k3_72 => k_asm); (case k4_72 => k_asm); (case k5_72 => k_asm); (case kK_72 => first | exact rfl | assumption); (case b1_72 => (walk_at "BUND")); (case kd_72 => ktr_room); (case ku_72 => ktr_units); k_whole;  intro t9z h9z tk9z F9z N9z; (try dsimp only); (try k_fold)) | (refine' con_use ?k1_73 ?k2_73 ?k3_73 ?k4_73 ?k5_73 ?kK_73 ?kd_73 ?ku_73 (c_has _ _ _ _ _ _ _ _ _ _ _ _ _ ?m1_73 ?m2_73 ?m3_73 ?a1_73) ?_; (case k1_73 => k_asm); (case k2_73 => k_asm); (case k3_73 => k_asm); (case k4_73 => k_asm); (case k5_73 => k_asm); (case kK_73 => first | exact rfl | assumption); (case m1_73 => k_mem); (case m2_73 => k_mem); (case m3_73 => k_mem); (case a1_73 => assumption); (case kd_73 => ktr_room); (case ku_73 => ktr_units); k_whole;  intro  h9z tk9z F9z N9z; (try dsimp only); (try k_fold)) | fin_once hold walk1 | fail); (try k_steps)))))
  refine' hret _ _ _ _ _ _ _ _ _ hno ?z1 ?z2 ?z3 ?z4 ?z5 ?z6 _ _ (by k_asm) (cb_drop (by assumption) ?zd)
  case zd => walk_at "SUB"
  all_goals (walk_at "NE")
set_option maxHeartbeats 8000000 in
theorem c_rules0 (w : World) (mean mg mb) (news : Led) (tb act : Addr) (g : Int) (tg : Tok) (ht : TabIn w news tb act) (hg0 : g < 10) :
    Con w mean mg mb 505 14 380 [.ref tb, .int g tg] news (fun kq => ∀ R, (∀ p ∈ news, p.1 ≠ R) → kq (.ref R) ((R, listOf #[] 0) :: news)) := by
  refine ht.elim fun td st rl ru cov cls no o cnt n TT h1 h2 h3 h4 h5 h6 hru hco h9 hno => ?_
  refine hru.elim fun rd e1 i1 e2 CR TR g1 g2 g3 g4 g5 => ?_
  refine hco.elim fun cd gt gvs cn t0 c1 c2 c3 c4 => ?_
  unfold Con
  have hfill : (PySem.Challenge.rw_pf0148_01, hd.heap_39) = (PySem.Challenge.rw_pf0148_01, hd.heap_39) := rfl
  intro dp un gd nm cs a ccd cl outer A₀ base h₀ L m s Q E B F X N T hk hdp hun hret
  revert hfill
  k_fill
  intro hfill; clear hfill
  have hMk := kstMark
  k_with_none
  refine wpAny_call ?_
  k_dflt (refine' code_defC ?k1 ?k2 ?k3 ?k4 ?k5 ?kA ?kF ?kK ?k6 ?k7 ?k8 ?k9 ?kB ?kD ?_ ?c2 ?c3 ?c4; (case kA => exact rfl); (case kF => exact rfl); (case kK => assumption); (case k1 => k_asm); (case k2 => k_asm); (case k3 => k_asm); (case k4 => k_asm); (case k5 => k_asm); (case k6 => k_is); (case k7 => k_is); (case k8 => ktr_room); (case k9 => exact BindsTo.of_eq rfl); (case kB => exact rfl); (case kD => decide +kernel); (case c2 => exact rfl); (case c3 => exact rfl); (case c4 => exact rfl); k_whole; intro g' L' h' tk' cells' FG' F' N' Y' B' X' T' l1; (try k_lt l1); k_cells Y'; (try simp only [List.cons_append, List.nil_append] at N'); (try dsimp only); (try k_fold))
  (k_steps; (all_goals (try ((with_reducible refine unheld ?_); (first | (k_here; (with_reducible show wpAny _ _ (getMethod _ (PySem.Str.ofString "get") _) _ _ _); k_dflt (refine' kdg_method (knd := PySem.intKind _ _) ?k1_74 ?k2_74 ?k3_74 ?_; (case k1_74 => k_asm); (case k2_74 => k_mem); (case k3_74 => assumption)); k_whole) | (k_here; k_dflt (refine' kdg_get2 (knd := PySem.intKind _ _) ?k1_75 ?k2_75 ?k3_75 ?k4_75 ?k5_75 _ ?k6_75 ?_; (case k1_75 => k_asm); (case k2_75 => k_mem); (case k3_75 => assumption); (case k4_75 => assumption); (case k5_75 => exact intKind_is _ _ _ _); (case k6_75 => rfl)); (try dsimp only [Option.getD])) | (refine' con_use ?k1_76 ?k2_76 ?k3_76 ?k4_76 ?k5_76 ?kK_76 ?kd_76 ?ku_76 (c_rule_tests _ _ _ _ _ _ _ _ _ _ _ _ _ _ _ _ _ _ _ _ _ _ _ _ _ _ _ _ _ _ _ _ ?m1_76 ?m2_76 ?m3_76 ?m4_76 ?m5_76 ?m6_76 ?m7_76 ?m8_76) ?_; (case k1_76 => k_asm); (case k2_76 => k_asm); (case k3_76 => k_asm); (case k4_76 => k_asm); (case k5_76 => k_asm); (case kK_76 => first | exact rfl | assumption); (case m1_76 => k_mem); (case m2_76 => k_mem); (case m3_76 => k_mem); (case m4_76 => k_mem); (case m5_76 => k_mem); (case m6_76 => k_mem); (case m7_76 => k_mem); (case m8_76 => k_mem); (case kd_76 => ktr_room); (case ku_76 => ktr_units); k_whole;  intro T9z B9z I9z A9z q9z t9z o1z o2z o3z o4z o5z h9z tk9z F9z N9z; (try dsimp only); (try k_fold)) | (refine' con_use ?k1_77 ?k2_77 ?k3_77 ?k4_77 ?k5_77 ?kK_77 ?kd_77 ?ku_77 (c_cls _ _ _ _ _ _ _ _ ?b1_77) ?_; (case k1_77 => k_asm); (case k2_77 => k_asm); (case k3_77 => k_asm); (case k4_77 => k_asm); (case k5_77 => k_asm); (case kK_77 => first | exact rfl | assumption); (case b1_77 => (walk_at "BUND")); (case kd_77 => ktr_room); (case ku_77 => ktr_units); k_whole;  intro t9z h9z tk9z F9z N9z; (try dsimp only); (try k_fold)) | (refine' con_use ?k1_78 ?k2_78 ?k3_78 ?k4_78 ?k5_78 ?kK_78 ?kd_78 ?ku_78 (c_has _ _ _ _ _ _ _ _ _ _ _ _ _ ?m1_78 ?m2_78 ?m3_78 ?a1_78) ?_; (case k1_78 => k_asm); (case k2_78 => k_asm); (case k3_78 => k_asm); (case k4_78 => k_asm); (case k5_78 => k_asm); (case kK_78 => first | exact rfl | assumption); (case m1_78 => k_mem); (case m2_78 => k_mem); (case m3_78 => k_mem); (case a1_78 => assumption); (case kd_78 => ktr_room); (case ku_78 => ktr_units); k_whole;  intro  h9z tk9z F9z N9z; (try dsimp only); (try k_fold)) | fin_once hold walk1 | fail); (try k_steps)))); (all_goals (try ((with_reducible refine unheld ?_); (first | (k_here; (with_reducible show wpAny _ _ (getMethod _ (PySem.Str.ofString "get") _) _ _ _); k_dflt (refine' kdg_method (knd := PySem.intKind _ _) ?k1_79 ?k2_79 ?k3_79 ?_; (case k1_79 => k_asm); (case k2_79 => k_mem); (case k3_79 => assumption)); k_whole) | (k_here; k_dflt (refine' kdg_get2 (knd := PySem.intKind _ _) ?k1_80 ?k2_80 ?k3_80 ?k4_80 ?k5_80 _ ?k6_80 ?_; (case k1_80 => k_asm); (case k2_80 => k_mem); (case k3_80 => assumption); (case k4_80 => assumption); (case k5_80 => exact intKind_is _ _ _ _); (case k6_80 => rfl)); (try dsimp only [Option.getD])) | (refine' con_use ?k1_81 ?k2_81 ?k3_81 ?k4_81 ?k5_81 ?kK_81 ?kd_81 ?ku_81 (c_rule_tests _ _ _ _ _ _ _ _ _ _ _ _ _ _ _ _ _ _ _ _ _ _ _ _ _ _ _ _ _ _ _ _ ?m1_81 ?m2_81 ?m3_81 ?m4_81 ?m5_81 ?m6_81 ?m7_81 ?m8_81) ?_; (case k1_81 => k_asm); (case k2_81 => k_asm); (case k3_81 => k_asm); (case k4_81 => k_asm); (case k5_81 => k_asm); (case kK_81 => first | exact rfl | assumption); (case m1_81 => k_mem); (case m2_81 => k_mem); (case m3_81 => k_mem); (case m4_81 => k_mem); (case m5_81 => k_mem); (case m6_81 => k_mem); (case m7_81 => k_mem); (case m8_81 => k_mem); (case kd_81 => ktr_room); (case ku_81 => ktr_units); k_whole;  intro T9z B9z I9z A9z q9z t9z o1z o2z o3z o4z o5z h9z tk9z F9z N9z; (try dsimp only); (try k_fold)) | (refine' con_use ?k1_82 ?k2_82 ?k3_82 ?k4_82 ?k5_82 ?kK_82 ?kd_82 ?ku_82 (c_cls _ _ _ _ _ _ _ _ ?b1_82) ?_; (case k1_82 => k_asm); (case k2_82 => k_asm); (case k3_82 => k_asm); (case k4_82 => k_asm); (case k5_82 => k_asm); (case kK_82 => first | exact rfl | assumption); (case b1_82 => (walk_at "BUND")); (case kd_82 => ktr_room); (case ku_82 => ktr_units); k_whole;  intro t9z h9z tk9z F9z N9z; (try dsimp only); (try k_fold)) | (refine' con_use ?k1_83 ?k2_83 ?k3_83 ?k4_83 ?k5_83 ?kK_83 ?kd_83 ?ku_83 (c_has _ _ _ _ _ _ _ _ _ _ _ _ _ ?m1_83 ?m2_83 ?m3_83 ?a1_83) ?_; (case k1_83 => k_asm); (case k2_83 => k_asm); (case k3_83 => k_asm); (case k4_83 => k_asm); (case k5_83 => k_asm); (case kK_83 => first | exact rfl | assumption); (case m1_83 => k_mem); (case m2_83 => k_mem); (case m3_83 => k_mem); (case a1_83 => assumption); (case kd_83 => ktr_room); (case ku_83 => ktr_units); k_whole;  intro  h9z tk9z F9z N9z; (try dsimp only); (try k_fold)) | fin_once hold walk1 | fail); (try k_steps)))); (all_goals (try ((with_reducible refine unheld ?_); (first | (k_here; (with_reducible show wpAny _ _ (getMethod _ (PySem.Str.ofString "get") _) _ _ _); k_dflt (refine' kdg_method (knd := PySem.intKind _ _) ?k1_84 ?k2_84 ?k3_84 ?_; (case k1_84 => k_asm); (case k2_84 => k_mem); (case k3_84 => assumption)); k_whole) | (k_here; k_dflt (refine' kdg_get2 (knd := PySem.intKind _ _) ?k1_85 ?k2_85 ?k3_85 ?k4_85 ?k5_85 _ ?k6_85 ?_; (case k1_85 => k_asm); (case k2_85 => k_mem); (case k3_85 => assumption); (case k4_85 => assumption); (case k5_85 => exact intKind_is _ _ _ _); (case k6_85 => rfl)); (try dsimp only [Option.getD])) | (refine' con_use ?k1_86 ?k2_86 ?k3_86 ?k4_86 ?k5_86 ?kK_86 ?kd_86 ?ku_86 (c_rule_tests _ _ _ _ _ _ _ _ _ _ _ _ _ _ _ _ _ _ _ _ _ _ _ _ _ _ _ _ _ _ _ _ ?m1_86 ?m2_86 ?m3_86 ?m4_86 ?m5_86 ?m6_86 ?m7_86 ?m8_86) ?_; (case k1_86 => k_asm); (case k2_86 => k_asm); (case k3_86 => k_asm); (case k4_86 => k_asm); (case k5_86 => k_asm); (case kK_86 => first | exact rfl | assumption); (case m1_86 => k_mem); (case m2_86 => k_mem); (case m3_86 => k_mem); (case m4_86 => k_mem); (case m5_86 => k_mem); (case m6_86 => k_mem); (case m7_86 => k_mem); (case m8_86 => k_mem); (case kd_86 => ktr_room); (case ku_86 => ktr_units); k_whole;  intro T9z B9z I9z A9z q9z t9z o1z o2z o3z o4z o5z h9z tk9z F9z N9z; (try dsimp only); (try k_fold)) | (refine' con_use ?k1_87 ?k2_87 ?k3_87 ?k4_87 ?k5_87 ?kK_87 ?kd_87 ?ku_87 (c_cls _ _ _ _ _ _ _ _ ?b1_87) ?_; (case k1_87 => k_asm); (case k2_87 => k_asm); (case k3_87 => k_asm); (case k4_87 => k_asm); (case k5_87 => k_asm); (case kK_87 => first | exact rfl | assumption); (case b1_87 => (walk_at "BUND")); (case kd_87 => ktr_room); (case ku_87 => ktr_units); k_whole;  intro t9z h9z tk9z F9z N9z; (try dsimp only); (try k_fold)) | (refine' con_use ?k1_88 ?k2_88 ?k3_88 ?k4_88 ?k5_88 ?kK_88 ?kd_88 ?ku_88 (c_has _ _ _ _ _ _ _ _ _ _ _ _ _ ?m1_88 ?m2_88 ?m3_88 ?a1_88) ?_; (case k1_88 => k_asm); (case k2_88 => k_asm); (case k3_88 => k_asm); (case k4_88 => k_asm); (case k5_88 => k_asm); (case kK_88 => first | exact rfl | assumption); (case m1_88 => k_mem); (case m2_88 => k_mem); (case m3_88 => k_mem); (case a1_88 => assumption); (case kd_88 => ktr_room); (case ku_88 => ktr_units); k_whole;  intro  h9z tk9z F9z N9z; (try dsimp only); (try k_fold)) | fin_once hold walk1 | fail); (try k_steps)))); (all_goals (try ((with_reducible refine unheld ?_); (first | (k_here; (with_reducible show wpAny _ _ (getMethod _ (PySem.Str.ofString "get") _) _ _ _); k_dflt (refine' kdg_method (knd := PySem.intKind _ _) ?k1_89 ?k2_89 ?k3_89 ?_; (case k1_89 => k_asm); (case k2_89 => k_mem); (case k3_89 => assumption)); k_whole) | (k_here; k_dflt (refine' kdg_get2 (knd := PySem.intKind _ _) ?k1_90 ?k2_90 ?k3_90 ?k4_90 ?k5_90 _ ?k6_90 ?_; (case k1_90 => k_asm); (case k2_90 => k_mem); (case k3_90 => assumption); (case k4_90 => assumption); (case k5_90 => exact intKind_is _ _ _ _); (case k6_90 => rfl)); (try dsimp only [Option.getD])) | (refine' con_use ?k1_91 ?k2_91 ?k3_91 ?k4_91 ?k5_91 ?kK_91 ?kd_91 ?ku_91 (c_rule_tests _ _ _ _ _ _ _ _ _ _ _ _ _ _ _ _ _ _ _ _ _ _ _ _ _ _ _ _ _ _ _ _ ?m1_91 ?m2_91 ?m3_91 ?m4_91 ?m5_91 ?m6_91 ?m7_91 ?m8_91) ?_; (case k1_91 => k_asm); (case k2_91 => k_asm); (case k3_91 => k_asm); (case k4_91 => k_asm); (case k5_91 => k_asm); (case kK_91 => first | exact rfl | assumption); (case m1_91 => k_mem); (case m2_91 => k_mem); (case m3_91 => k_mem); (case m4_91 => k_mem); (case m5_91 => k_mem); (case m6_91 => k_mem); (case m7_91 => k_mem); (case m8_91 => k_mem); (case kd_91 => ktr_room); (case ku_91 => ktr_units); k_whole;  intro T9z B9z I9z A9z q9z t9z o1z o2z o3z o4z o5z h9z tk9z F9z N9z; (try dsimp only); (try k_fold)) | (refine' con_use ?k1_92 ?k2_92 ?k3_92 ?k4_92 ?k5_92 ?kK_92 ?kd_92 ?ku_92 (c_cls _ _ _ _ _ _ _ _ ?b1_92) ?_; (case k1_92 => k_asm); (case k2_92 => k_asm); (case k3_92 => k_asm); (case k4_92 => k_asm); (case k5_92 => k_asm); (case kK_92 => first | exact rfl | assumption); (case b1_92 => (walk_at "BUND")); (case kd_92 => ktr_room); (case ku_92 => ktr_units); k_whole;  intro t9z h9z tk9z F9z N9z; (try dsimp only); (try k_fold)) | (refine' con_use ?k1_93 ?k2_93 ?k3_93 ?k4_93 ?k5_93 ?kK_93 ?kd_93 ?ku_93 (c_has _ _ _ _ _ _ _ _ _ _ _ _ _ ?m1_93 ?m2_93 ?m3_93 ?a1_93) ?_; (case k1_93 => k_asm); (case k2_93 => k_asm); (case k3_93 => k_asm); (case k4_93 => k_asm); (case k5_93 => k_asm); (case kK_93 => first | exact rfl | assumption); (case m1_93 => k_mem); (case m2_93 => k_mem); (case m3_93 => k_mem); (case a1_93 => assumption); (case kd_93 => ktr_room); (case ku_93 => ktr_units); k_whole;  intro  h9z tk9z F9z N9z; (try dsimp only); (try k_fold)) | fin_once hold walk1 | fail); (try k_steps)))); (all_goals (try ((with_reducible refine unheld ?_); (first | (k_here; (with_reducible show wpAny _ _ (getMethod _ (PySem.Str.ofString "get") _) _ _ _); k_dflt (refine' kdg_method (knd := PySem.intKind _ _) ?k1_94 ?k2_94 ?k3_94 ?_; (case k1_94 => k_asm); (case k2_94 => k_mem); (case k3_94 => assumption)); k_whole) | (k_here; k_dflt (refine' kdg_get2 (knd := PySem.intKind _ _) ?k1_95 ?k2_95 ?k3_95 ?k4_95 ?k5_95 _ ?k6_95 ?_; (case k1_95 => k_asm); (case k2_95 => k_mem); (case k3_95 => assumption); (case k4_95 => assumption); (case k5_95 => exact intKind_is _ _ _ _); (case k6_95 => rfl)); (try dsimp only [Option.getD])) | (refine' con_use ?k1_96 ?k2_96 ?k3_96 ?k4_96 ?k5_96 ?kK_96 ?kd_96 ?ku_96 (c_rule_tests _ _ _ _ _ _ _ _ _ _ _ _ _ _ _ _ _ _ _ _ _ _ _ _ _ _ _ _ _ _ _ _ ?m1_96 ?m2_96 ?m3_96 ?m4_96 ?m5_96 ?m6_96 ?m7_96 ?m8_96) ?_; (case k1_96 => k_asm); (case k2_96 => k_asm); (case k3_96 => k_asm); (case k4_96 => k_asm); (case k5_96 => k_asm); (case kK_96 => first | exact rfl | assumption); (case m1_96 => k_mem); (case m2_96 => k_mem); (case m3_96 => k_mem); (case m4_96 => k_mem); (case m5_96 => k_mem); (case m6_96 => k_mem); (case m7_96 => k_mem); (case m8_96 => k_mem); (case kd_96 => ktr_room); (case ku_96 => ktr_units); k_whole;  intro T9z B9z I9z A9z q9z t9z o1z o2z o3z o4z o5z h9z tk9z F9z N9z; (try dsimp only); (try k_fold)) | (refine' con_use ?k1_97 ?k2_97 ?k3_97 ?k4_97 ?k5_97 ?kK_97 ?kd_97 ?ku_97 (c_cls _ _ _ _ _ _ _ _ ?b1_97) ?_; (case k1_97 => k_asm); (case k2_97 => k_asm); (case k3_97 => k_asm); (case k4_97 => k_asm); (case k5_97 => k_asm); (case kK_97 => first | exact rfl | assumption); (case b1_97 => (walk_at "BUND")); (case kd_97 => ktr_room); (case ku_97 => ktr_units); k_whole;  intro t9z h9z tk9z F9z N9z; (try dsimp only); (try k_fold)) | (refine' con_use ?k1_98 ?k2_98 ?k3_98 ?k4_98 ?k5_98 ?kK_98 ?kd_98 ?ku_98 (c_has _ _ _ _ _ _ _ _ _ _ _ _ _ ?m1_98 ?m2_98 ?m3_98 ?a1_98) ?_; (case k1_98 => k_asm); (case k2_98 => k_asm); (case k3_98 => k_asm); (case k4_98 => k_asm); (case k5_98 => k_asm); (case kK_98 => first | exact rfl | assumption); (case m1_98 => k_mem); (case m2_98 => k_mem); (case m3_98 => k_mem); (case a1_98 => assumption); (case kd_98 => ktr_room); (case ku_98 => ktr_units); k_whole;  intro  h9z tk9z F9z N9z; (try dsimp only); (try k_fold)) | fin_once hold walk1 | fail); (try k_steps)))); (all_goals (try ((with_reducible refine unheld ?_); (first | (k_here; (with_reducible show wpAny _ _ (getMethod _ (PySem.Str.ofString "get") _) _ _ _); k_dflt (refine' kdg_method (knd := PySem.intKind _ _) ?k1_99 ?k2_99 ?k3_99 ?_; (case k1_99 => k_asm); (case k2_99 => k_mem); (case k3_99 => assumption)); k_whole) | (k_here; k_dflt (refine' kdg_get2 (knd := PySem.intKind _ _) ?k1_100 ?k2_100 ?k3_100 ?k4_100 ?k5_100 _ ?k6_100 ?_; (case k1_100 => k_asm); (case k2_100 => k_mem); (case k3_100 => assumption); (case k4_100 => assumption); (case k5_100 => exact intKind_is _ _ _ _); (case k6_100 => rfl)); (try dsimp only [Option.getD])) | (refine' con_use ?k1_101 ?k2_101 ?k3_101 ?k4_101 ?k5_101 ?kK_101 ?kd_101 ?ku_101 (c_rule_tests _ _ _ _ _ _ _ _ _ _ _ _ _ _ _ _ _ _ _ _ _ _ _ _ _ _ _ _ _ _ _ _ ?m1_101 ?m2_101 ?m3_101 ?m4_101 ?m5_101 ?m6_101 ?m7_101 ?m8_101) ?_; (case k1_101 => k_asm); (case k2_101 => k_asm); (case k3_101 => k_asm); (case k4_101 => k_asm); (case k5_101 => k_asm); (case kK_101 => first | exact rfl | assumption); (case m1_101 => k_mem); (case m2_101 => k_mem); (case m3_101 => k_mem); (case m4_101 => k_mem); (case m5_101 => k_mem); (case m6_101 => k_mem); (case m7_101 => k_mem); (case m8_101 => k_mem); (case kd_101 => ktr_room); (case ku_101 => ktr_units); k_whole;  intro T9z B9z I9z A9z q9z t9z o1z o2z o3z o4z o5z h9z tk9z F9z N9z; (try dsimp only); (try k_fold)) | (refine' con_use ?k1_102 ?k2_102 ?k3_102 ?k4_102 ?k5_102 ?kK_102 ?kd_102 ?ku_102 (c_cls _ _ _ _ _ _ _ _ ?b1_102) ?_; (case k1_102 => k_asm); (case k2_102 => k_asm); (case k3_102 => k_asm); (case k4_102 => k_asm); (case k5_102 => k_asm); (case kK_102 => first | exact rfl | assumption); (case b1_102 => (walk_at "BUND")); (case kd_102 => ktr_room); (case ku_102 => ktr_units); k_whole;  intro t9z h9z tk9z F9z N9z; (try dsimp only); (try k_fold)) | (refine' con_use ?k1_103 ?k2_103 ?k3_103 ?k4_103 ?k5_103 ?kK_103 ?kd_103 ?ku_103 (c_has _ _ _ _ _ _ _ _ _ _ _ _ _ ?m1_103 ?m2_103 ?m3_103 ?a1_103) ?_; (case k1_103 => k_asm); (case k2_103 => k_asm); (case k3_103 => k_asm); (case k4_103 => k_asm); (case k5_103 => k_asm); (case kK_103 => first | exact rfl | assumption); (case m1_103 => k_mem); (case m2_103 => k_mem); (case m3_103 => k_mem); (case a1_103 => assumption); (case kd_103 => ktr_room); (case ku_103 => ktr_units); k_whole;  intro  h9z tk9z F9z N9z; (try dsimp only); (try k_fold)) | fin_once hold walk1 | fail); (try k_steps)))); (all_goals (try ((with_reducible refine unheld ?_); (first | (k_here; (with_reducible show wpAny _ _ (getMethod _ (PySem.Str.ofString "get") _) _ _ _); k_dflt (refine' kdg_method (knd := PySem.intKind _ _) ?k1_104 ?k2_104 ?k3_104 ?_; (case k1_104 => k_asm); (case k2_104 => k_mem); (case k3_104 => assumption)); k_whole) | (k_here; k_dflt (refine' kdg_get2 (knd := PySem.intKind _ _) ?k1_105 ?k2_105 ?k3_105 ?k4_105 ?k5_105 _ ?k6_105 ?_; (case k1_105 => k_asm); (case k2_105 => k_mem); (case k3_105 => assumption); (case k4_105 => assumption); (case k5_105 => exact intKind_is _ _ _ _); (case k6_105 => rfl)); (try dsimp only [Option.getD])) | (refine' con_use ?k1_106 ?k2_106 ?k3_106 ?k4_106 ?k5_106 ?kK_106 ?kd_106 ?ku_106 (c_rule_tests _ _ _ _ _ _ _ _ _ _ _ _ _ _ _ _ _ _ _ _ _ _ _ _ _ _ _ _ _ _ _ _ ?m1_106 ?m2_106 ?m3_106 ?m4_106 ?m5_106 ?m6_106 ?m7_106 ?m8_106) ?_; (case k1_106 => k_asm); (case k2_106 => k_asm); (case k3_106 => k_asm); (case k4_106 => k_asm); (case k5_106 => k_asm); (case kK_106 => first | exact rfl | assumption); (case m1_106 => k_mem); (case m2_106 => k_mem); (case m3_106 => k_mem); (case m4_106 => k_mem); (case m5_106 => k_mem); (case m6_106 => k_mem); (case m7_106 => k_mem); (case m8_106 => k_mem); (case kd_106 => ktr_room); (case ku_106 => ktr_units); k_whole;  intro T9z B9z I9z A9z q9z t9z o1z o2z o3z o4z o5z h9z tk9z F9z N9z; (try dsimp only); (try k_fold)) | (refine' con_use ?k1_107 ?k2_107 ?k3_107 ?k4_107 ?k5_107 ?kK_107 ?kd_107 ?ku_107 (c_cls _ _ _ _ _ _ _ _ ?b1_107) ?_; (case k1_107 => k_asm); (case k2_107 => k_asm); (case k3_107 => k_asm); (case k4_107 => k_asm); (case k5_107 => k_asm); (case kK_107 => first | exact rfl | assumption); (case b1_107 => (walk_at "BUND")); (case kd_107 => ktr_room); (case ku_107 => ktr_units); k_whole;  intro t9z h9z tk9z F9z N9z; (try dsimp only); (try k_fold)) | (refine' con_use ?k1_108 ?k2_108 ?k3_108 ?k4_108 ?k5_108 ?kK_108 ?kd_108 ?ku_108 (c_has _ _ _ _ _ _ _ _ _ _ _ _ _ ?m1_108 ?m2_108 ?m3_108 ?a1_108) ?_; (case k1_108 => k_asm); (case k2_108 => k_asm); (case k3_108 => k_asm); (case k4_108 => k_asm); (case k5_108 => k_asm); (case kK_108 => first | exact rfl | assumption); (case m1_108 => k_mem); (case m2_108 => k_mem); (case m3_108 => k_mem); (case a1_108 => assumption); (case kd_108 => ktr_room); (case ku_108 => ktr_units); k_whole;  intro  h9z tk9z F9z N9z; (try dsimp only); (try k_fold)) | fin_once hold walk1 | fail); (try k_steps)))); (all_goals (try ((with_reducible refine unheld ?_); (first | (k_here; (with_reducible show wpAny _ _ (getMethod _ (PySem.Str.ofString "get") _) _ _ _); k_dflt (refine' kdg_method (knd := PySem.intKind _ _) ?k1_109 ?k2_109 ?k3_109 ?_; (case k1_109 => k_asm); (case k2_109 => k_mem); (case k3_109 => assumption)); k_whole) | (k_here; k_dflt (refine' kdg_get2 (knd := PySem.intKind _ _) ?k1_110 ?k2_110 ?k3_110 ?k4_110 ?k5_110 _ ?k6_110 ?_; (case k1_110 => k_asm); (case k2_110 => k_mem); (case k3_110 => assumption); (case k4_110 => assumption); (case k5_110 => exact intKind_is _ _ _ _); (case k6_110 => rfl)); (try dsimp only [Option.getD])) | (refine' con_use ?k1_111 ?k2_111 ?k3_111 ?k4_111 ?k5_111 ?kK_111 ?kd_111 ?ku_111 (c_rule_tests _ _ _ _ _ _ _ _ _ _ _ _ _ _ _ _ _ _ _ _ _ _ _ _ _ _ _ _ _ _ _ _ ?m1_111 ?m2_111 ?m3_111 ?m4_111 ?m5_111 ?m6_111 ?m7_111 ?m8_111) ?_; (case k1_111 => k_asm); (case k2_111 => k_asm); (case k3_111 => k_asm); (case k4_111 => k_asm); (case k5_111 => k_asm); (case kK_111 => first | exact rfl | assumption); (case m1_111 => k_mem); (case m2_111 => k_mem); (case m3_111 => k_mem); (case m4_111 => k_mem); (case m5_111 => k_mem); (case m6_111 => k_mem); (case m7_111 => k_mem); (case m8_111 => k_mem); (case kd_111 => ktr_room); (case ku_111 => ktr_units); k_whole;  intro T9z B9z I9z A9z q9z t9z o1z o2z o3z o4z o5z h9z tk9z F9z N9z; (try dsimp only); (try k_fold)) | (refine' con_use ?k1_112 ?k2_112 ?k3_112 ?k4_112 ?k5_112 ?kK_112 ?kd_112 ?ku_112 (c_cls _ _ _ _ _ _ _ _ ?b1_112) ?_; (case k1_112 => k_asm); (case k2_112 => k_asm); (case k3_112 => k_asm); (case k4_112 => k_asm); (case k5_112 => k_asm); (case kK_112 => first | exact rfl | assumption); (case b1_112 => (walk_at "BUND")); (case kd_112 => ktr_room); (case ku_112 => ktr_units); k_whole;  intro t9z h9z tk9z F9z N9z; (try dsimp only); (try k_fold)) | (refine' con_use ?k1_113 ?k2_113 ?k3_113 ?k4_113 ?k5_113 ?kK_113 ?kd_113 ?ku_113 (c_has _ _ _ _ _ _ _ _ _ _ _ _ _ ?m1_113 ?m2_113 ?m3_113 ?a1_113) ?_; (case k1_113 => k_asm); (case k2_113 => k_asm); (case k3_113 => k_asm); (case k4_113 => k_asm); (case k5_113 => k_asm); (case kK_113 => first | exact rfl | assumption); (case m1_113 => k_mem); (case m2_113 => k_mem); (case m3_113 => k_mem); (case a1_113 => assumption); (case kd_113 => ktr_room); (case ku_113 => ktr_units); k_whole;  intro  h9z tk9z F9z N9z; (try dsimp only); (try k_fold)) | fin_once hold walk1 | fail); (try k_steps)))))
  refine' hret _ ?z1 _ _ (by k_asm) (cb_drop (by assumption) ?zd)
  case zd => walk_at "SUB"
  all_goals (walk_at "NE")
end
abbrev bufO (w : World) (row : Addr) (T : Nat → Tok) (V : Nat → Value) : Obj := dictOf [⟨PyData.keyHash w.params (PySem.Str.ofString "row"), .str (PySem.Str.ofString "row") (T 1), .ref row⟩, ⟨PyData.keyHash w.params (PySem.Str.ofString "is_backward"), .str (PySem.Str.ofString "is_backward") (T 2), (V 2)⟩, ⟨PyData.keyHash w.params (PySem.Str.ofString "last_lig"), .str (PySem.Str.ofString "last_lig") (T 3), (V 3)⟩, ⟨PyData.keyHash w.params (PySem.Str.ofString "last_split"), .str (PySem.Str.ofString "last_split") (T 4), (V 4)⟩] 4
def BufIn (w : World) (l : Led) (b row : Addr) (vs : List Value) : Prop := ∃ (bd : Addr) (c : Nat) (T : Nat → Tok) (V : Nat → Value), (b, instObj 193 bd) ∈ l ∧ (bd, bufO w row T V) ∈ l ∧ (row, listOf vs.toArray c) ∈ l
theorem BufIn.elim {w : World} {l : Led} {b row : Addr} {vs : List Value} {P : Prop} (h : BufIn w l b row vs) (k : ∀ bd c (T : Nat → Tok) (V : Nat → Value), (b, instObj 193 bd) ∈ l → (bd, bufO w row T V) ∈ l → (row, listOf vs.toArray c) ∈ l → P) : P := by
  obtain ⟨a1, a2, a3, a4, h1, h2, h3⟩ := h
  exact k a1 a2 a3 a4 h1 h2 h3
theorem BufIn.mono {w : World} {l l' : Led} {b row : Addr} {vs : List Value} (h : BufIn w l b row vs) (s : ∀ p ∈ l, p ∈ l') : BufIn w l' b row vs := h.elim fun _ _ T V h1 h2 h3 => ⟨_, _, T, V, s _ h1, s _ h2, s _ h3⟩
local macro_rules | `(tactic| walk_at "BM") => `(tactic| ((with_reducible refine BufIn.mono (by with_reducible assumption) ?_); walk_at "SUB"))
abbrev scO (w : World) (b gd lks lk S : Addr) (d : Int) (T : Nat → Tok) : Obj := dictOf [⟨PyData.keyHash w.params (PySem.Str.ofString "buffer"), .str (PySem.Str.ofString "buffer") (T 1), .ref b⟩, ⟨PyData.keyHash w.params (PySem.Str.ofString "gdef"), .str (PySem.Str.ofString "gdef") (T 2), .ref gd⟩, ⟨PyData.keyHash w.params (PySem.Str.ofString "lookups"), .str (PySem.Str.ofString "lookups") (T 3), .ref lks⟩, ⟨PyData.keyHash w.params (PySem.Str.ofString "lookup"), .str (PySem.Str.ofString "lookup") (T 4), .ref lk⟩, ⟨PyData.keyHash w.params (PySem.Str.ofString "mask"), .str (PySem.Str.ofString "mask") (T 5), .int 1 (T 8)⟩, ⟨PyData.keyHash w.params (PySem.Str.ofString "depth"), .str (PySem.Str.ofString "depth") (T 6), .int d (T 9)⟩, ⟨PyData.keyHash w.params (PySem.Str.ofString "steps"), .str (PySem.Str.ofString "steps") (T 7), .ref S⟩] 7
def SceneIn (w : World) (l : Led) (sc b gd lks lk S : Addr) (d : Int) : Prop := ∃ (sd : Addr) (T : Nat → Tok), (sc, instObj 65 sd) ∈ l ∧ (sd, scO w b gd lks lk S d T) ∈ l
theorem SceneIn.elim {w : World} {l : Led} {sc b gd lks lk S : Addr} {d : Int} {P : Prop} (h : SceneIn w l sc b gd lks lk S d) (k : ∀ sd (T : Nat → Tok), (sc, instObj 65 sd) ∈ l → (sd, scO w b gd lks lk S d T) ∈ l → P) : P := by
  obtain ⟨a1, a2, h1, h2⟩ := h
  exact k a1 a2 h1 h2
theorem SceneIn.mono {w : World} {l l' : Led} {sc b gd lks lk S : Addr} {d : Int} (h : SceneIn w l sc b gd lks lk S d) (s : ∀ p ∈ l, p ∈ l') : SceneIn w l' sc b gd lks lk S d := h.elim fun _ T h1 h2 => ⟨_, T, s _ h1, s _ h2⟩
abbrev infO (w : World) (g : Int) (tg : Tok) (m : Value) (T : Nat → Tok) (V : Nat → Value) : Obj :=
  dictOf [⟨PyData.keyHash w.params (PySem.Str.ofString "code"), .str (PySem.Str.ofString "code") (T 1), (V 1)⟩, ⟨PyData.keyHash w.params (PySem.Str.ofString "glyph"), .str (PySem.Str.ofString "glyph") (T 2), .int g tg⟩, ⟨PyData.keyHash w.params (PySem.Str.ofString "cluster"), .str (PySem.Str.ofString "cluster") (T 3), (V 3)⟩, ⟨PyData.keyHash w.params (PySem.Str.ofString "mask"), .str (PySem.Str.ofString "mask") (T 4), m⟩, ⟨PyData.keyHash w.params (PySem.Str.ofString "is_unsafe"), .str (PySem.Str.ofString "is_unsafe") (T 5), (V 5)⟩, ⟨PyData.keyHash w.params (PySem.Str.ofString "lig_id"), .str (PySem.Str.ofString "lig_id") (T 6), (V 6)⟩, ⟨PyData.keyHash w.params (PySem.Str.ofString "lig_part"), .str (PySem.Str.ofString "lig_part") (T 7), (V 7)⟩, ⟨PyData.keyHash w.params (PySem.Str.ofString "lig_count"), .str (PySem.Str.ofString "lig_count") (T 8), (V 8)⟩, ⟨PyData.keyHash w.params (PySem.Str.ofString "split_id"), .str (PySem.Str.ofString "split_id") (T 9), (V 9)⟩, ⟨PyData.keyHash w.params (PySem.Str.ofString "kind"), .str (PySem.Str.ofString "kind") (T 10), (V 10)⟩, ⟨PyData.keyHash w.params (PySem.Str.ofString "x_advance"), .str (PySem.Str.ofString "x_advance") (T 11), (V 11)⟩, ⟨PyData.keyHash w.params (PySem.Str.ofString "y_advance"), .str (PySem.Str.ofString "y_advance") (T 12), (V 12)⟩, ⟨PyData.keyHash w.params (PySem.Str.ofString "x_offset"), .str (PySem.Str.ofString "x_offset") (T 13), (V 13)⟩, ⟨PyData.keyHash w.params (PySem.Str.ofString "y_offset"), .str (PySem.Str.ofString "y_offset") (T 14), (V 14)⟩, ⟨PyData.keyHash w.params (PySem.Str.ofString "parent"), .str (PySem.Str.ofString "parent") (T 15), (V 15)⟩, ⟨PyData.keyHash w.params (PySem.Str.ofString "bond"), .str (PySem.Str.ofString "bond") (T 16), (V 16)⟩] 16
def InfD (w : World) (o : Obj) (g : Int) : Prop := ∃ (tg tm : Tok) (T : Nat → Tok) (V : Nat → Value), o = infO w g tg (.int 1 tm) T V
def InfV (w : World) (o : Obj) (g : Int) : Prop := ∃ (tg : Tok) (m : Value) (T : Nat → Tok) (V : Nat → Value), o = infO w g tg m T V
theorem InfV.of {w : World} {g : Int} {tg t1 t2 t3 t4 t5 t6 t7 t8 t9 t10 t11 t12 t13 t14 t15 t16 : Tok} {v1 v3 v4 v5 v6 v7 v8 v9 v10 v11 v12 v13 v14 v15 v16 : Value} : InfV w (dictOf [⟨PyData.keyHash w.params (PySem.Str.ofString "code"), .str (PySem.Str.ofString "code") t1, v1⟩, ⟨PyData.keyHash w.params (PySem.Str.ofString "glyph"), .str (PySem.Str.ofString "glyph") t2, .int g tg⟩, ⟨PyData.keyHash w.params (PySem.Str.ofString "cluster"), .str (PySem.Str.ofString "cluster") t3, v3⟩, ⟨PyData.keyHash w.params (PySem.Str.ofString "mask"), .str (PySem.Str.ofString "mask") t4, v4⟩, ⟨PyData.keyHash w.params (PySem.Str.ofString "is_unsafe"), .str (PySem.Str.ofString "is_unsafe") t5, v5⟩, ⟨PyData.keyHash w.params (PySem.Str.ofString "lig_id"), .str (PySem.Str.ofString "lig_id") t6, v6⟩, ⟨PyData.keyHash w.params (PySem.Str.ofString "lig_part"), .str (PySem.Str.ofString "lig_part") t7, v7⟩, ⟨PyData.keyHash w.params (PySem.Str.ofString "lig_count"), .str (PySem.Str.ofString "lig_count") t8, v8⟩, ⟨PyData.keyHash w.params (PySem.Str.ofString "split_id"), .str (PySem.Str.ofString "split_id") t9, v9⟩, ⟨PyData.keyHash w.params (PySem.Str.ofString "kind"), .str (PySem.Str.ofString "kind") t10, v10⟩, ⟨PyData.keyHash w.params (PySem.Str.ofString "x_advance"), .str (PySem.Str.ofString "x_advance") t11, v11⟩, ⟨PyData.keyHash w.params (PySem.Str.ofString "y_advance"), .str (PySem.Str.ofString "y_advance") t12, v12⟩, ⟨PyData.keyHash w.params (PySem.Str.ofString "x_offset"), .str (PySem.Str.ofString "x_offset") t13, v13⟩, ⟨PyData.keyHash w.params (PySem.Str.ofString "y_offset"), .str (PySem.Str.ofString "y_offset") t14, v14⟩, ⟨PyData.keyHash w.params (PySem.Str.ofString "parent"), .str (PySem.Str.ofString "parent") t15, v15⟩, ⟨PyData.keyHash w.params (PySem.Str.ofString "bond"), .str (PySem.Str.ofString "bond") t16, v16⟩] 16) g := ⟨tg, v4, fun i => [0, t1, t2, t3, t4, t5, t6, t7, t8, t9, t10, t11, t12, t13, t14, t15, t16].getD i 0, fun i => [.none, v1, .none, v3, .none, v5, v6, v7, v8, v9, v10, v11, v12, v13, v14, v15, v16].getD i .none, rfl⟩
theorem item_at {prog : Program} {w : World} {A : Around} {E : Value → Shared → Prop} {s : Shared} {value slice : Expr} {l : Addr} {vs : List Value} {k : Int} {u : Tok} {v : Value} {Q : Value → Shared → Prop} (hl : s.heap.IsList l vs.toArray) (h0 : 0 ≤ k) (h1 : k < 2 ^ 63) (hx : vs[k.toNat]? = some v) (h : Q v s)
    (hs : subscripted slice false (.ref l) (.int k u) = operate [.ref l, .int k u] (getItem (.ref l) (.int k u)) := by with_unfolding_all rfl) :
    wpAny (model prog w) A (subscriptTail value slice (.ref l) (.int k u)) Q E s :=
  tail_any hl.typeIs slot_list_getitem.lookup (wpAny_getItem_list hl h0 h1 (by simpa using hx) h) hs
theorem slice_one {prog : Program} {w : World} {A : Around} {E : Value → Shared → Prop} {s : Shared} {h₀ : Heap} {L l : Addr} {m : Str → Option Value} {news : Led} {value slice : Expr} {vs : List Value} {k : Int} {u u' : Tok} {Q : Value → Shared → Prop} (F : Fr h₀ L s.heap m) (N : News h₀ L s.heap news) (hl : s.heap.IsList l vs.toArray) (h0 : 0 ≤ k) (h2 : vs.length ≤ 100)
    (h : ∀ D h' (zs : List Value), zs.length ≤ 1 → Fr h₀ L h' m → News h₀ L h' ((D, listOf zs.toArray 0) :: news) → (∀ p ∈ news, p.1 < D) → Q (.ref D) { s with heap := h' })
    (hs : subscripted slice false (.ref l) (.ref s.heap.objs.size) = operate [.ref s.heap.objs.size, .ref l] (getItem (.ref l) (.ref s.heap.objs.size))) (ht : ∀ r, letTemporaryGo value (.ref l) r = pure ()) :
    wpAny (model prog w) A (subscriptTail value slice (.ref l) (.ref s.heap.objs.size)) Q E { s with heap := s.heap.push { cls := .type "slice", data := .fields #[.int k u, .int (k + 1) u', .none] } } := by
  refine kmk_slice F N hl (IsPart.int _ _) (IsPart.int _ _) (fun D h' F' N' l1 => h D h' (kms_pick vs (some k) (some (k + 1))) ?_ F' ?_ l1) hs ht (by rw [List.size_toArray, sizeLine_eq]; omega)
  · unfold kms_pick kms_lo kms_hi
    rw [List.length_take, List.length_drop]
    dsimp only
    rw [if_neg (by omega), if_neg (by omega)]
    omega
  · rw [kms_pick_eq] at N'
    simpa using N'
local macro_rules | `(tactic| walk_at "IT1") => `(tactic| (k_here; (with_reducible show wpAny _ _ (subscriptTail _ _ (Value.ref _) (Value.int _ _)) _ _ _); k_dflt (refine' item_at ?k1 ?k2 ?k3 ?k4 ?_; (case k1 => exact isl (by k_asm) (by k_mem)); (case k2 => first | with_reducible assumption | decide); (case k3 => first | decide | omega); (case k4 => first | with_reducible assumption | rfl)); k_whole))
local macro_rules | `(tactic| walk_at "IT2") => `(tactic| (k_here; (with_reducible show wpAny _ _ (subscriptTail _ _ (Value.ref _) (Value.int _ _)) _ _ _); k_dflt (refine' item_tupleT ?k1 ?k2 ?k3 ?k4 ?k5 ?_; (case k1 => exact isT (by k_asm) (by k_mem)); (case k2 => decide); (case k3 => decide); (case k4 => rfl); (case k5 => rfl)); k_whole))
local macro_rules | `(tactic| walk_at "subscriptTail") => `(tactic| walk_at "IT1")
local macro_rules | `(tactic| walk_at "subscriptTail") => `(tactic| walk_at "IT2")
local macro_rules | `(tactic| walk_at "subscriptTail Name Constant ref int") => `(tactic| walk_at "IT1")
local macro_rules | `(tactic| walk_at "subscriptTail Name Constant ref int") => `(tactic| walk_at "IT2")
local macro_rules | `(tactic| walk_at "subscriptTail Name Name ref int") => `(tactic| walk_at "IT1")
local macro_rules | `(tactic| walk_at "subscriptTail Name Name ref int") => `(tactic| walk_at "IT2")
local macro_rules | `(tactic| walk_at "subscriptTail Attribute Name Constant ref int") => `(tactic| walk_at "IT1")
local macro_rules | `(tactic| walk_at "subscriptTail Attribute Name Constant ref int") => `(tactic| walk_at "IT2")
local macro_rules | `(tactic| walk_at "LEN") => `(tactic| (k_here; (with_reducible show wpAny _ _ (call (Value.builtin "len") [Value.ref _]) _ _ _); k_dflt (refine' kst_len ?k1 ?k2 ?k3 ?k4 ?_; (case k1 => k_asm); (case k2 => k_mem); (case k3 => exact rfl); (case k4 => first | decide | omega)); k_whole))
local macro_rules | `(tactic| walk_at "call builtin:len") => `(tactic| walk_at "LEN")
local macro_rules | `(tactic| walk_at "SCENE") => `(tactic| (first | with_reducible assumption | ((with_reducible refine SceneIn.mono (by with_reducible assumption) ?_); walk_at "SUB") | exact ⟨_, _, by k_mem, by k_mem⟩ | exact ⟨_, fun i => [0, _, _, _, _, _, _, _, _, _].getD i 0, by k_mem, by k_mem⟩))
section
local macro_rules | `(tactic| walk_at "subscriptTail Name Slice ref ref") => `(tactic| walk_at "HOLD")
set_option maxHeartbeats 8000000 in
theorem c_hang (w : World) (mean mg mb) (news : Led) (b row : Addr) (vs : List Value) (at' : Int) (ta tb : Tok) (hb : BufIn w news b row vs) (h0 : 0 ≤ at') (h1 : at' < vs.length) (h2 : vs.length ≤ 100) :
    Con w mean mg mb 221 4 300 [.ref b, .int at' ta, .int (at' + 1) tb] news (fun kq => kq (.none) news) := by
  refine hb.elim fun bd c TB VB b1 b2 b3 => ?_
  unfold Con
  have hfill : (PySem.Challenge.rw_pf0148_01, hd.heap_39) = (PySem.Challenge.rw_pf0148_01, hd.heap_39) := rfl
  intro dp un gd nm cs a ccd cl outer A₀ base h₀ L m s Q E B F X N T hk hdp hun hret
  revert hfill
  k_fill
  intro hfill; clear hfill
  have hMk := kstMark
  k_with_none
  refine wpAny_call ?_
  k_dflt ktr_enter
  (k_steps; (all_goals (try ((with_reducible refine unheld ?_); (first | (k_here; k_dflt (refine' slice_one ?F_114 ?N_114 ?l_114 ?p_114 ?q_114 ?_ ?s_114 ?t_114; (case F_114 => k_asm); (case N_114 => k_asm); (case l_114 => exact isl (by k_asm) (by k_mem)); (case p_114 => omega); (case q_114 => with_reducible assumption); (case s_114 => with_unfolding_all rfl); (case t_114 => kmk_pure)); intro D'z h'z zs'z hz'z F'z N'z l1z; (try k_sweep)) | fin_once hold walk1 | fail); (try k_steps)))); (all_goals (try ((with_reducible refine unheld ?_); (first | (k_here; k_dflt (refine' slice_one ?F_115 ?N_115 ?l_115 ?p_115 ?q_115 ?_ ?s_115 ?t_115; (case F_115 => k_asm); (case N_115 => k_asm); (case l_115 => exact isl (by k_asm) (by k_mem)); (case p_115 => omega); (case q_115 => with_reducible assumption); (case s_115 => with_unfolding_all rfl); (case t_115 => kmk_pure)); intro D'z h'z zs'z hz'z F'z N'z l1z; (try k_sweep)) | fin_once hold walk1 | fail); (try k_steps)))))
  exact hret _ _ (by k_asm) (cb_drop (by assumption) (by walk_at "SUB"))
end
theorem iter_nil {prog : Program} {w : World} {A : Around} {E : Value → Shared → Prop} {s : Shared} {env : Env} {h₀ : Heap} {x : Str} {body : List Stmt} {Q : Flow → Shared → Prop} {l : Addr} {nn : Nat} {m₀ : Str → Option Value} {news : Led}
    (hh : A.handled = none) (hl : (l, listOf #[] nn) ∈ news) (F : Fr h₀ env.locals s.heap m₀) (N : News h₀ env.locals s.heap news)
    (done : ∀ h tk, Fr h₀ env.locals h m₀ → News h₀ env.locals h news → Q .next { s with heap := h, toks := tk }) :
    wpAny (model prog w) A (pyIter (.ref l)) (fun it s₂ => LoopAtV prog w A h₀ env x body Q E it s₂) E s :=
  kdl_iter (vs := []) (nn := nn) (fun _ m nx => m = m₀ ∧ nx = news) hh hl F N ⟨rfl, rfl⟩ (fun i v _ _ _ _ _ hv => by simp at hv) fun m₁ n₁ h tk ⟨e1, e2⟩ F₁ N₁ => done h tk (e1 ▸ F₁) (e2 ▸ N₁)
local macro_rules | `(tactic| walk_at "FORL") => `(tactic| (k_here; (rename Fr _ _ _ _ => lF'); (with_unfolding_all refine' For_invVF lF' ?k1 ?k2 ?_; (case k1 => exact rfl); (case k2 => exact rfl); k_whole)))
local macro_rules | `(tactic| walk_at "exec For Name Attribute cons nil") => `(tactic| walk_at "FORL")
local macro_rules | `(tactic| walk_at "exec For Name Call cons nil") => `(tactic| walk_at "FORL")
local macro_rules | `(tactic| walk_at "exec For Name Name cons nil") => `(tactic| walk_at "FORL")
local macro_rules | `(tactic| walk_at "exec For Name Subscript cons nil") => `(tactic| walk_at "FORL")
section
local macro_rules | `(tactic| walk_at "pyIter ref") => `(tactic| walk_at "HOLD")
local macro_rules | `(tactic| walk_at "call ref") => `(tactic| walk_at "HOLD")
set_option maxHeartbeats 8000000 in
theorem c_match (w : World) (mean mg mb) (news : Led) (sc b gd lks lk S row inf G T B I A q no act : Addr) (d g at' : Int) (vs : List Value) (oG : Obj) (t tc ta : Tok)
    (hs : SceneIn w news sc b gd lks lk S d) (hb : BufIn w news b row vs) (h0 : 0 ≤ at') (h1 : at' < vs.length) (h2 : vs.length ≤ 100) (hx : vs[at'.toNat]? = some (.ref inf)) (hi : (inf, instObj 142 G) ∈ news) (hG : (G, oG) ∈ news) (hD : InfD w oG g)
    (hn : NoneIn w news no) (hT : (T, tupO [.ref B, .ref I, .ref A, .ref act] 0) ∈ news) (hB : (B, listOf #[] 0) ∈ news) (hI : (I, listOf #[.ref q] 1) ∈ news) (hq : (q, tupO [.str (PySem.Str.ofString "class") tc, .ref no, .int 0 t] 0) ∈ news) (hA : (A, listOf #[] 0) ∈ news) :
    Con w mean mg mb 533 10 340 [.ref sc, .int at' ta, .ref T] news (fun kq => ∀ M P t1 t2 t3, (∀ p ∈ news, p.1 ≠ M) → (∀ p ∈ news, p.1 ≠ P) → kq (.ref M) ((M, tupO [.ref P, .int at' t1, .int at' t2] 0) :: (P, listOf #[.int at' t3] 0) :: news)) := by
  refine hb.elim fun bd c TB VB b1 b2 b3 => ?_
  have hn2 := hn
  refine hn2.elim fun nd nc no9 nt d1 d2 d3 d4 d5 => ?_
  refine hs.elim fun sd TS s1 s2 => ?_
  obtain ⟨tg9, tm9, TI, VI, rfl⟩ := hD
  unfold Con
  have hfill : (PySem.Challenge.rw_pf0148_01, hd.heap_39) = (PySem.Challenge.rw_pf0148_01, hd.heap_39) := rfl
  intro dp un gd nm cs a ccd cl outer A₀ base h₀ L m s Q E B F X N T hk hdp hun hret
  revert hfill
  k_fill
  intro hfill; clear hfill
  have hMk := kstMark
  k_with_none
  refine wpAny_call ?_
  k_dflt ktr_enter
  (k_steps; (all_goals (try ((with_reducible refine unheld ?_); (first | (refine' con_use ?k1_116 ?k2_116 ?k3_116 ?k4_116 ?k5_116 ?kK_116 ?kd_116 ?ku_116 (c_cls _ _ _ _ _ _ _ _ ?b1_116) ?_; (case k1_116 => k_asm); (case k2_116 => k_asm); (case k3_116 => k_asm); (case k4_116 => k_asm); (case k5_116 => k_asm); (case kK_116 => first | exact rfl | assumption); (case b1_116 => (walk_at "BUND")); (case kd_116 => ktr_room); (case ku_116 => ktr_units); k_whole;  intro t9z h9z tk9z F9z N9z; (try dsimp only); (try k_fold)) | ((with_reducible show wpAny _ _ (pyIter (Value.ref _)) (fun it s₂ => LoopAtV _ _ _ _ _ _ _ _ _ it s₂) _ _); k_dflt (refine' iter_nil ?k1_117 ?k2_117 ?k3_117 ?k4_117 ?_; (case k1_117 => exact rfl); (case k4_117 => k_asm); (case k3_117 => k_asm); (case k2_117 => k_mem)); k_whole; intro h'z tk'z F'z N'z; (try dsimp only); (try k_fold)) | fin_once hold walk1 | fail); (try k_steps)))); (all_goals (try ((with_reducible refine unheld ?_); (first | (refine' con_use ?k1_118 ?k2_118 ?k3_118 ?k4_118 ?k5_118 ?kK_118 ?kd_118 ?ku_118 (c_cls _ _ _ _ _ _ _ _ ?b1_118) ?_; (case k1_118 => k_asm); (case k2_118 => k_asm); (case k3_118 => k_asm); (case k4_118 => k_asm); (case k5_118 => k_asm); (case kK_118 => first | exact rfl | assumption); (case b1_118 => (walk_at "BUND")); (case kd_118 => ktr_room); (case ku_118 => ktr_units); k_whole;  intro t9z h9z tk9z F9z N9z; (try dsimp only); (try k_fold)) | ((with_reducible show wpAny _ _ (pyIter (Value.ref _)) (fun it s₂ => LoopAtV _ _ _ _ _ _ _ _ _ it s₂) _ _); k_dflt (refine' iter_nil ?k1_119 ?k2_119 ?k3_119 ?k4_119 ?_; (case k1_119 => exact rfl); (case k4_119 => k_asm); (case k3_119 => k_asm); (case k2_119 => k_mem)); k_whole; intro h'z tk'z F'z N'z; (try dsimp only); (try k_fold)) | fin_once hold walk1 | fail); (try k_steps)))); (all_goals (try ((with_reducible refine unheld ?_); (first | (refine' con_use ?k1_120 ?k2_120 ?k3_120 ?k4_120 ?k5_120 ?kK_120 ?kd_120 ?ku_120 (c_cls _ _ _ _ _ _ _ _ ?b1_120) ?_; (case k1_120 => k_asm); (case k2_120 => k_asm); (case k3_120 => k_asm); (case k4_120 => k_asm); (case k5_120 => k_asm); (case kK_120 => first | exact rfl | assumption); (case b1_120 => (walk_at "BUND")); (case kd_120 => ktr_room); (case ku_120 => ktr_units); k_whole;  intro t9z h9z tk9z F9z N9z; (try dsimp only); (try k_fold)) | ((with_reducible show wpAny _ _ (pyIter (Value.ref _)) (fun it s₂ => LoopAtV _ _ _ _ _ _ _ _ _ it s₂) _ _); k_dflt (refine' iter_nil ?k1_121 ?k2_121 ?k3_121 ?k4_121 ?_; (case k1_121 => exact rfl); (case k4_121 => k_asm); (case k3_121 => k_asm); (case k2_121 => k_mem)); k_whole; intro h'z tk'z F'z N'z; (try dsimp only); (try k_fold)) | fin_once hold walk1 | fail); (try k_steps)))); (all_goals (try ((with_reducible refine unheld ?_); (first | (refine' con_use ?k1_122 ?k2_122 ?k3_122 ?k4_122 ?k5_122 ?kK_122 ?kd_122 ?ku_122 (c_cls _ _ _ _ _ _ _ _ ?b1_122) ?_; (case k1_122 => k_asm); (case k2_122 => k_asm); (case k3_122 => k_asm); (case k4_122 => k_asm); (case k5_122 => k_asm); (case kK_122 => first | exact rfl | assumption); (case b1_122 => (walk_at "BUND")); (case kd_122 => ktr_room); (case ku_122 => ktr_units); k_whole;  intro t9z h9z tk9z F9z N9z; (try dsimp only); (try k_fold)) | ((with_reducible show wpAny _ _ (pyIter (Value.ref _)) (fun it s₂ => LoopAtV _ _ _ _ _ _ _ _ _ it s₂) _ _); k_dflt (refine' iter_nil ?k1_123 ?k2_123 ?k3_123 ?k4_123 ?_; (case k1_123 => exact rfl); (case k4_123 => k_asm); (case k3_123 => k_asm); (case k2_123 => k_mem)); k_whole; intro h'z tk'z F'z N'z; (try dsimp only); (try k_fold)) | fin_once hold walk1 | fail); (try k_steps)))); (all_goals (try ((with_reducible refine unheld ?_); (first | (refine' con_use ?k1_124 ?k2_124 ?k3_124 ?k4_124 ?k5_124 ?kK_124 ?kd_124 ?ku_124 (c_cls _ _ _ _ _ _ _ _ ?b1_124) ?_; (case k1_124 => k_asm); (case k2_124 => k_asm); (case k3_124 => k_asm); (case k4_124 => k_asm); (case k5_124 => k_asm); (case kK_124 => first | exact rfl | assumption); (case b1_124 => (walk_at "BUND")); (case kd_124 => ktr_room); (case ku_124 => ktr_units); k_whole;  intro t9z h9z tk9z F9z N9z; (try dsimp only); (try k_fold)) | ((with_reducible show wpAny _ _ (pyIter (Value.ref _)) (fun it s₂ => LoopAtV _ _ _ _ _ _ _ _ _ it s₂) _ _); k_dflt (refine' iter_nil ?k1_125 ?k2_125 ?k3_125 ?k4_125 ?_; (case k1_125 => exact rfl); (case k4_125 => k_asm); (case k3_125 => k_asm); (case k2_125 => k_mem)); k_whole; intro h'z tk'z F'z N'z; (try dsimp only); (try k_fold)) | fin_once hold walk1 | fail); (try k_steps)))); (all_goals (try ((with_reducible refine unheld ?_); (first | (refine' con_use ?k1_126 ?k2_126 ?k3_126 ?k4_126 ?k5_126 ?kK_126 ?kd_126 ?ku_126 (c_cls _ _ _ _ _ _ _ _ ?b1_126) ?_; (case k1_126 => k_asm); (case k2_126 => k_asm); (case k3_126 => k_asm); (case k4_126 => k_asm); (case k5_126 => k_asm); (case kK_126 => first | exact rfl | assumption); (case b1_126 => (walk_at "BUND")); (case kd_126 => ktr_room); (case ku_126 => ktr_units); k_whole;  intro t9z h9z tk9z F9z N9z; (try dsimp only); (try k_fold)) | ((with_reducible show wpAny _ _ (pyIter (Value.ref _)) (fun it s₂ => LoopAtV _ _ _ _ _ _ _ _ _ it s₂) _ _); k_dflt (refine' iter_nil ?k1_127 ?k2_127 ?k3_127 ?k4_127 ?_; (case k1_127 => exact rfl); (case k4_127 => k_asm); (case k3_127 => k_asm); (case k2_127 => k_mem)); k_whole; intro h'z tk'z F'z N'z; (try dsimp only); (try k_fold)) | fin_once hold walk1 | fail); (try k_steps)))); (all_goals (try ((with_reducible refine unheld ?_); (first | (refine' con_use ?k1_128 ?k2_128 ?k3_128 ?k4_128 ?k5_128 ?kK_128 ?kd_128 ?ku_128 (c_cls _ _ _ _ _ _ _ _ ?b1_128) ?_; (case k1_128 => k_asm); (case k2_128 => k_asm); (case k3_128 => k_asm); (case k4_128 => k_asm); (case k5_128 => k_asm); (case kK_128 => first | exact rfl | assumption); (case b1_128 => (walk_at "BUND")); (case kd_128 => ktr_room); (case ku_128 => ktr_units); k_whole;  intro t9z h9z tk9z F9z N9z; (try dsimp only); (try k_fold)) | ((with_reducible show wpAny _ _ (pyIter (Value.ref _)) (fun it s₂ => LoopAtV _ _ _ _ _ _ _ _ _ it s₂) _ _); k_dflt (refine' iter_nil ?k1_129 ?k2_129 ?k3_129 ?k4_129 ?_; (case k1_129 => exact rfl); (case k4_129 => k_asm); (case k3_129 => k_asm); (case k2_129 => k_mem)); k_whole; intro h'z tk'z F'z N'z; (try dsimp only); (try k_fold)) | fin_once hold walk1 | fail); (try k_steps)))); (all_goals (try ((with_reducible refine unheld ?_); (first | (refine' con_use ?k1_130 ?k2_130 ?k3_130 ?k4_130 ?k5_130 ?kK_130 ?kd_130 ?ku_130 (c_cls _ _ _ _ _ _ _ _ ?b1_130) ?_; (case k1_130 => k_asm); (case k2_130 => k_asm); (case k3_130 => k_asm); (case k4_130 => k_asm); (case k5_130 => k_asm); (case kK_130 => first | exact rfl | assumption); (case b1_130 => (walk_at "BUND")); (case kd_130 => ktr_room); (case ku_130 => ktr_units); k_whole;  intro t9z h9z tk9z F9z N9z; (try dsimp only); (try k_fold)) | ((with_reducible show wpAny _ _ (pyIter (Value.ref _)) (fun it s₂ => LoopAtV _ _ _ _ _ _ _ _ _ it s₂) _ _); k_dflt (refine' iter_nil ?k1_131 ?k2_131 ?k3_131 ?k4_131 ?_; (case k1_131 => exact rfl); (case k4_131 => k_asm); (case k3_131 => k_asm); (case k2_131 => k_mem)); k_whole; intro h'z tk'z F'z N'z; (try dsimp only); (try k_fold)) | fin_once hold walk1 | fail); (try k_steps)))); (all_goals (try ((with_reducible refine unheld ?_); (first | (refine' con_use ?k1_132 ?k2_132 ?k3_132 ?k4_132 ?k5_132 ?kK_132 ?kd_132 ?ku_132 (c_cls _ _ _ _ _ _ _ _ ?b1_132) ?_; (case k1_132 => k_asm); (case k2_132 => k_asm); (case k3_132 => k_asm); (case k4_132 => k_asm); (case k5_132 => k_asm); (case kK_132 => first | exact rfl | assumption); (case b1_132 => (walk_at "BUND")); (case kd_132 => ktr_room); (case ku_132 => ktr_units); k_whole;  intro t9z h9z tk9z F9z N9z; (try dsimp only); (try k_fold)) | ((with_reducible show wpAny _ _ (pyIter (Value.ref _)) (fun it s₂ => LoopAtV _ _ _ _ _ _ _ _ _ it s₂) _ _); k_dflt (refine' iter_nil ?k1_133 ?k2_133 ?k3_133 ?k4_133 ?_; (case k1_133 => exact rfl); (case k4_133 => k_asm); (case k3_133 => k_asm); (case k2_133 => k_mem)); k_whole; intro h'z tk'z F'z N'z; (try dsimp only); (try k_fold)) | fin_once hold walk1 | fail); (try k_steps)))); (all_goals (try ((with_reducible refine unheld ?_); (first | (refine' con_use ?k1_134 ?k2_134 ?k3_134 ?k4_134 ?k5_134 ?kK_134 ?kd_134 ?ku_134 (c_cls _ _ _ _ _ _ _ _ ?b1_134) ?_; (case k1_134 => k_asm); (case k2_134 => k_asm); (case k3_134 => k_asm); (case k4_134 => k_asm); (case k5_134 => k_asm); (case kK_134 => first | exact rfl | assumption); (case b1_134 => (walk_at "BUND")); (case kd_134 => ktr_room); (case ku_134 => ktr_units); k_whole;  intro t9z h9z tk9z F9z N9z; (try dsimp only); (try k_fold)) | ((with_reducible show wpAny _ _ (pyIter (Value.ref _)) (fun it s₂ => LoopAtV _ _ _ _ _ _ _ _ _ it s₂) _ _); k_dflt (refine' iter_nil ?k1_135 ?k2_135 ?k3_135 ?k4_135 ?_; (case k1_135 => exact rfl); (case k4_135 => k_asm); (case k3_135 => k_asm); (case k2_135 => k_mem)); k_whole; intro h'z tk'z F'z N'z; (try dsimp only); (try k_fold)) | fin_once hold walk1 | fail); (try k_steps)))); (all_goals (try ((with_reducible refine unheld ?_); (first | (refine' con_use ?k1_136 ?k2_136 ?k3_136 ?k4_136 ?k5_136 ?kK_136 ?kd_136 ?ku_136 (c_cls _ _ _ _ _ _ _ _ ?b1_136) ?_; (case k1_136 => k_asm); (case k2_136 => k_asm); (case k3_136 => k_asm); (case k4_136 => k_asm); (case k5_136 => k_asm); (case kK_136 => first | exact rfl | assumption); (case b1_136 => (walk_at "BUND")); (case kd_136 => ktr_room); (case ku_136 => ktr_units); k_whole;  intro t9z h9z tk9z F9z N9z; (try dsimp only); (try k_fold)) | ((with_reducible show wpAny _ _ (pyIter (Value.ref _)) (fun it s₂ => LoopAtV _ _ _ _ _ _ _ _ _ it s₂) _ _); k_dflt (refine' iter_nil ?k1_137 ?k2_137 ?k3_137 ?k4_137 ?_; (case k1_137 => exact rfl); (case k4_137 => k_asm); (case k3_137 => k_asm); (case k2_137 => k_mem)); k_whole; intro h'z tk'z F'z N'z; (try dsimp only); (try k_fold)) | fin_once hold walk1 | fail); (try k_steps)))); (all_goals (try ((with_reducible refine unheld ?_); (first | (refine' con_use ?k1_138 ?k2_138 ?k3_138 ?k4_138 ?k5_138 ?kK_138 ?kd_138 ?ku_138 (c_cls _ _ _ _ _ _ _ _ ?b1_138) ?_; (case k1_138 => k_asm); (case k2_138 => k_asm); (case k3_138 => k_asm); (case k4_138 => k_asm); (case k5_138 => k_asm); (case kK_138 => first | exact rfl | assumption); (case b1_138 => (walk_at "BUND")); (case kd_138 => ktr_room); (case ku_138 => ktr_units); k_whole;  intro t9z h9z tk9z F9z N9z; (try dsimp only); (try k_fold)) | ((with_reducible show wpAny _ _ (pyIter (Value.ref _)) (fun it s₂ => LoopAtV _ _ _ _ _ _ _ _ _ it s₂) _ _); k_dflt (refine' iter_nil ?k1_139 ?k2_139 ?k3_139 ?k4_139 ?_; (case k1_139 => exact rfl); (case k4_139 => k_asm); (case k3_139 => k_asm); (case k2_139 => k_mem)); k_whole; intro h'z tk'z F'z N'z; (try dsimp only); (try k_fold)) | fin_once hold walk1 | fail); (try k_steps)))))
  refine' hret _ _ _ _ _ ?za ?zb _ _ (by k_asm) (cb_drop (by assumption) ?zd)
  case zd => walk_at "SUB"
  all_goals (walk_at "NE")
end
def SingIn (w : World) (l : Led) (si : Addr) : Prop := ∃ (sd mp : Addr) (o : Obj) (kvs : List (Int × Value)) (t1 : Tok), (si, instObj 607 sd) ∈ l ∧ (sd, dictOf [⟨PyData.keyHash w.params (PySem.Str.ofString "mapping"), .str (PySem.Str.ofString "mapping") t1, .ref mp⟩] 1) ∈ l ∧ (mp, o) ∈ l ∧ (mp == sysModules) = false ∧ o.IsDictOf (PySem.intKind PR w) kvs ∧ ∀ g : Int, 10 ≤ g → g < 280 → ∃ t, valueAt kvs g = some (.int (g + 1) t)
theorem SingIn.mono {w : World} {l l' : Led} {a : Addr} (h : SingIn w l a) (s : ∀ p ∈ l, p ∈ l') : SingIn w l' a := let ⟨a1, a2, a3, a4, a5, h1, h2, h3, h4⟩ := h; ⟨a1, a2, a3, a4, a5, s _ h1, s _ h2, s _ h3, h4⟩
local macro_rules | `(tactic| walk_at "BM") => `(tactic| ((with_reducible refine SingIn.mono (by with_reducible assumption) ?_); walk_at "SUB"))
theorem isSome_of {α : Type} {x : Option α} {v : α} (h : x = some v) : x.isSome = true := by rw [h]; rfl
section
set_option maxHeartbeats 8000000 in
theorem c_inner (w : World) (mean mg mb) (news : Led) (sc b gd lks lk S k0 k1 k2 k3 lj : Addr) (d j : Int) (c : Nat) (tj : Tok)
    (hs : SceneIn w news sc b gd lks lk S d) (hl : (lks, listOf #[.ref k0, .ref k1, .ref k2, .ref k3] c) ∈ news) (h0 : 0 ≤ j) (h1 : j < 4) (hx : [Value.ref k0, .ref k1, .ref k2, .ref k3][j.toNat]? = some (.ref lj)) (hd6 : d < 6) :
    Con w mean mg mb 540 10 340 [.ref sc, .int j tj] news (fun kq => ∀ x dx T, (∀ p ∈ news, p.1 ≠ x) → (∀ p ∈ news, p.1 ≠ dx) → kq (.ref x) ((x, instObj 65 dx) :: (dx, scO w b gd lks lj S (d + 1) T) :: news)) := by
  refine hs.elim fun sd TS s1 s2 => ?_
  unfold Con
  have hfill : (PySem.Challenge.rw_pf0148_01, hd.heap_39) = (PySem.Challenge.rw_pf0148_01, hd.heap_39) := rfl
  intro dp un gd nm cs a ccd cl outer A₀ base h₀ L m s Q E B F X N T hk hdp hun hret
  revert hfill
  k_fill
  intro hfill; clear hfill
  have hMk := kstMark
  k_with_none
  refine wpAny_call ?_
  k_dflt ktr_enter
  k_steps
  refine' hret _ _ (fun i => [0, _, _, _, _, _, _, _, _, _].getD i 0) ?za ?zb _ _ ?zN (cb_drop (by assumption) ?zd)
  case zN => k_asm
  case zd => walk_at "SUB"
  all_goals (walk_at "NE")
end
section
local macro_rules | `(tactic| walk_at "compareOp NotIn int ref") => `(tactic| walk_at "HOLD")
local macro_rules | `(tactic| walk_at "subscriptTail") => `(tactic| walk_at "HOLD")
set_option maxHeartbeats 8000000 in
theorem c_single {w : World} {mean : ExcName → Option Value} {mg mb : Str → Option Value} {rest : Led} {sc b gd lks lk S row inf G si : Addr} {d g at' : Int} {vs : List Value} {oG : Obj} {ta : Tok}
    (hs : SceneIn w rest sc b gd lks lk S d) (hb : BufIn w rest b row vs) (h0 : 0 ≤ at') (h1 : at' < vs.length) (h2 : vs.length ≤ 100) (hx : vs[at'.toNat]? = some (.ref inf)) (hi : (inf, instObj 142 G) ∈ rest) (hD : InfD w oG g) (hG : ∀ p ∈ rest, p.1 ≠ G)
    (hsi : SingIn w rest si) (hg0 : 10 ≤ g) (hg1 : g < 280) :
    Con w mean mg mb 618 10 340 [.ref sc, .ref si, .int at' ta] ((G, oG) :: rest) (fun kq => ∀ o t, InfD w o (g + 1) → kq (.int (at' + 1) t) ((G, o) :: rest)) := by
  refine hb.elim fun bd c TB VB b1 b2 b3 => ?_
  refine hs.elim fun sd TS s1 s2 => ?_
  obtain ⟨md, mp, mo, kvs, mt, m1, m2, m3, m4, m5, m6⟩ := hsi
  obtain ⟨tv9, hv9⟩ := m6 g hg0 hg1
  obtain ⟨tg9, tm9, TI, VI, rfl⟩ := hD
  unfold Con
  have hfill : (PySem.Challenge.rw_pf0148_01, hd.heap_39) = (PySem.Challenge.rw_pf0148_01, hd.heap_39) := rfl
  intro dp un gd nm cs a ccd cl outer A₀ base h₀ L m s Q E B F X N T hk hdp hun hret
  revert hfill
  k_fill
  intro hfill; clear hfill
  have hMk := kstMark
  k_with_none
  refine wpAny_call ?_
  k_dflt ktr_enter
  (k_steps; (all_goals (try ((with_reducible refine unheld ?_); (first | (k_here; (with_reducible show wpAny _ _ (subscriptTail _ _ (Value.ref _) (Value.int _ _)) _ _ _); k_dflt (refine' kda_item (knd := PySem.intKind _ _) ?k1_140 ?k2_140 ?k3_140 ?k5_140 ?k6_140 ?_ ?k7_140 ?k8_140; (case k1_140 => k_asm); (case k2_140 => k_mem); (case k3_140 => assumption); (case k5_140 => exact intKind_is _ _ _ _); (case k6_140 => assumption); (case k7_140 => with_unfolding_all rfl); (case k8_140 => (intro _; with_unfolding_all rfl)))) | (k_here; k_dflt (refine' kdg_notin (knd := PySem.intKind _ _) ?k1_141 ?k2_141 ?k3_141 ?k4_141 ?k5_141 true ?k6_141 ?_; (case k1_141 => k_asm); (case k2_141 => k_mem); (case k3_141 => assumption); (case k4_141 => assumption); (case k5_141 => exact intKind_is _ _ _ _); (case k6_141 => exact isSome_of (by assumption)))) | fin_once hold walk1 | fail); (try k_steps)))); (all_goals (try ((with_reducible refine unheld ?_); (first | (k_here; (with_reducible show wpAny _ _ (subscriptTail _ _ (Value.ref _) (Value.int _ _)) _ _ _); k_dflt (refine' kda_item (knd := PySem.intKind _ _) ?k1_142 ?k2_142 ?k3_142 ?k5_142 ?k6_142 ?_ ?k7_142 ?k8_142; (case k1_142 => k_asm); (case k2_142 => k_mem); (case k3_142 => assumption); (case k5_142 => exact intKind_is _ _ _ _); (case k6_142 => assumption); (case k7_142 => with_unfolding_all rfl); (case k8_142 => (intro _; with_unfolding_all rfl)))) | (k_here; k_dflt (refine' kdg_notin (knd := PySem.intKind _ _) ?k1_143 ?k2_143 ?k3_143 ?k4_143 ?k5_143 true ?k6_143 ?_; (case k1_143 => k_asm); (case k2_143 => k_mem); (case k3_143 => assumption); (case k4_143 => assumption); (case k5_143 => exact intKind_is _ _ _ _); (case k6_143 => exact isSome_of (by assumption)))) | fin_once hold walk1 | fail); (try k_steps)))); (all_goals (try ((with_reducible refine unheld ?_); (first | (k_here; (with_reducible show wpAny _ _ (subscriptTail _ _ (Value.ref _) (Value.int _ _)) _ _ _); k_dflt (refine' kda_item (knd := PySem.intKind _ _) ?k1_144 ?k2_144 ?k3_144 ?k5_144 ?k6_144 ?_ ?k7_144 ?k8_144; (case k1_144 => k_asm); (case k2_144 => k_mem); (case k3_144 => assumption); (case k5_144 => exact intKind_is _ _ _ _); (case k6_144 => assumption); (case k7_144 => with_unfolding_all rfl); (case k8_144 => (intro _; with_unfolding_all rfl)))) | (k_here; k_dflt (refine' kdg_notin (knd := PySem.intKind _ _) ?k1_145 ?k2_145 ?k3_145 ?k4_145 ?k5_145 true ?k6_145 ?_; (case k1_145 => k_asm); (case k2_145 => k_mem); (case k3_145 => assumption); (case k4_145 => assumption); (case k5_145 => exact intKind_is _ _ _ _); (case k6_145 => exact isSome_of (by assumption)))) | fin_once hold walk1 | fail); (try k_steps)))); (all_goals (try ((with_reducible refine unheld ?_); (first | (k_here; (with_reducible show wpAny _ _ (subscriptTail _ _ (Value.ref _) (Value.int _ _)) _ _ _); k_dflt (refine' kda_item (knd := PySem.intKind _ _) ?k1_146 ?k2_146 ?k3_146 ?k5_146 ?k6_146 ?_ ?k7_146 ?k8_146; (case k1_146 => k_asm); (case k2_146 => k_mem); (case k3_146 => assumption); (case k5_146 => exact intKind_is _ _ _ _); (case k6_146 => assumption); (case k7_146 => with_unfolding_all rfl); (case k8_146 => (intro _; with_unfolding_all rfl)))) | (k_here; k_dflt (refine' kdg_notin (knd := PySem.intKind _ _) ?k1_147 ?k2_147 ?k3_147 ?k4_147 ?k5_147 true ?k6_147 ?_; (case k1_147 => k_asm); (case k2_147 => k_mem); (case k3_147 => assumption); (case k4_147 => assumption); (case k5_147 => exact intKind_is _ _ _ _); (case k6_147 => exact isSome_of (by assumption)))) | fin_once hold walk1 | fail); (try k_steps)))))
  refine' hret _ _ ?za _ _ (by k_asm) (cb_drop (by assumption) ?zd)
  case zd => walk_at "SUB"
  case za => exact ⟨_, _, _, _, rfl⟩
end
abbrev St := Int × Int
def leaf (p : St) : St := (p.1, p.2 + 1)
def stepA (F : St → St) (p : St) : St := if p.1 < 256 then F (p.1 + 1, p.2) else p
theorem stepA_lt {F : St → St} {n k : Int} (h : n < 256) : stepA F (n, k) = F (n + 1, k) := if_pos h
theorem stepA_ge {F : St → St} {n k : Int} (h : ¬ n < 256) : stepA F (n, k) = (n, k) := if_neg h
def acts (H : Int → St → St) (row : List Int) (p : St) : St := row.foldl (fun p g => stepA (H g) p) p
def Ok (p : St) : Prop := 0 ≤ p.2 ∧ p.2 ≤ p.1 ∧ p.1 ≤ 256
def FOk (F : St → St) : Prop := ∀ p : St, 0 ≤ p.2 → p.2 < p.1 → p.1 ≤ 256 → Ok (F p)
theorem leaf_ok : FOk leaf := fun p h1 h2 h3 => ⟨by show 0 ≤ p.2 + 1; omega, by show p.2 + 1 ≤ p.1; omega, h3⟩
theorem stepA_ok {F : St → St} (h : FOk F) {p : St} (hp : Ok p) : Ok (stepA F p) := by
  unfold stepA
  split
  · exact h _ hp.1 (by have := hp.2.1; show p.2 < p.1 + 1; omega) (by show p.1 + 1 ≤ 256; omega)
  · exact hp
theorem acts_ok {H : Int → St → St} : ∀ {row : List Int} {p : St}, (∀ g ∈ row, FOk (H g)) → Ok p → Ok (acts H row p)
  | [], _, _, hp => hp
  | g :: r, p, h, hp => acts_ok (row := r) (p := stepA (H g) p) (fun x hx => h x (.tail _ hx)) (stepA_ok (h g (.head _)) hp)
theorem acts_fok {H : Int → St → St} {row : List Int} (h : ∀ g ∈ row, FOk (H g)) : FOk (acts H row) := fun p h1 h2 h3 => acts_ok h ⟨h1, by omega, h3⟩
/-- the actions of a table: pairs (0, goal) -/
inductive ActsAre (l : Led) : List Value → List Int → Prop
  | nil : ActsAre l [] []
  | cons {a : Addr} {t0 tg : Tok} {n : Nat} {g : Int} {vs : List Value} {row : List Int} : (a, tupO [.int 0 t0, .int g tg] n) ∈ l → ActsAre l vs row → ActsAre l (.ref a :: vs) (g :: row)
theorem ActsAre.mono {l l' : Led} {vs : List Value} {row : List Int} (h : ActsAre l vs row) (s : ∀ p ∈ l, p ∈ l') : ActsAre l' vs row := by
  induction h with
  | nil => exact .nil
  | cons hm _ ih => exact .cons (s _ hm) ih
local macro_rules | `(tactic| walk_at "BM") => `(tactic| ((with_reducible refine ActsAre.mono (by with_reducible assumption) ?_); walk_at "SUB"))
def ActIn (l : Led) (act : Addr) (row : List Int) : Prop := ∃ (vs : List Value) (n : Nat), (act, tupO vs n) ∈ l ∧ ActsAre l vs row
theorem ActIn.mono {l l' : Led} {act : Addr} {row : List Int} (h : ActIn l act row) (s : ∀ p ∈ l, p ∈ l') : ActIn l' act row := let ⟨vs, n, h1, h2⟩ := h; ⟨vs, n, s _ h1, h2.mono s⟩
local macro_rules | `(tactic| walk_at "BM") => `(tactic| ((with_reducible refine ActIn.mono (by with_reducible assumption) ?_); walk_at "SUB"))
abbrev lkO (w : World) (kind : String) (tl : Addr) (T : Nat → Tok) (v3 : Value) : Obj := dictOf [⟨PyData.keyHash w.params (PySem.Str.ofString "kind"), .str (PySem.Str.ofString "kind") (T 1), .str (PySem.Str.ofString kind) (T 5)⟩, ⟨PyData.keyHash w.params (PySem.Str.ofString "flag"), .str (PySem.Str.ofString "flag") (T 2), .int 0 (T 6)⟩, ⟨PyData.keyHash w.params (PySem.Str.ofString "mark_set"), .str (PySem.Str.ofString "mark_set") (T 3), v3⟩, ⟨PyData.keyHash w.params (PySem.Str.ofString "tables"), .str (PySem.Str.ofString "tables") (T 4), .ref tl⟩] 4
def LkIn (w : World) (l : Led) (lk tb : Addr) (kind : String) : Prop := ∃ (ld tl : Addr) (c : Nat) (T : Nat → Tok) (v3 : Value), (lk, instObj 43 ld) ∈ l ∧ (ld, lkO w kind tl T v3) ∈ l ∧ (tl, listOf #[.ref tb] c) ∈ l
theorem LkIn.elim {w : World} {l : Led} {lk tb : Addr} {kind : String} {P : Prop} (h : LkIn w l lk tb kind) (k : ∀ ld tl c (T : Nat → Tok) v3, (lk, instObj 43 ld) ∈ l → (ld, lkO w kind tl T v3) ∈ l → (tl, listOf #[.ref tb] c) ∈ l → P) : P := by
  obtain ⟨a1, a2, a3, a4, a5, h1, h2, h3⟩ := h
  exact k a1 a2 a3 a4 a5 h1 h2 h3
theorem LkIn.mono {w : World} {l l' : Led} {lk tb : Addr} {kind : String} (h : LkIn w l lk tb kind) (s : ∀ p ∈ l, p ∈ l') : LkIn w l' lk tb kind := h.elim fun _ _ _ T v3 h1 h2 h3 => ⟨_, _, _, T, v3, s _ h1, s _ h2, s _ h3⟩
local macro_rules | `(tactic| walk_at "BM") => `(tactic| ((with_reducible refine LkIn.mono (by with_reducible assumption) ?_); walk_at "SUB"))
def ChainLk (w : World) (l : Led) (lk : Addr) (row : List Int) : Prop := ∃ (tb act : Addr), LkIn w l lk tb "chain" ∧ TabIn w l tb act ∧ ActIn l act row
theorem ChainLk.mono {w : World} {l l' : Led} {lk : Addr} {row : List Int} (h : ChainLk w l lk row) (s : ∀ p ∈ l, p ∈ l') : ChainLk w l' lk row := let ⟨tb, act, h1, h2, h3⟩ := h; ⟨tb, act, h1.mono s, h2.mono s, h3.mono s⟩
local macro_rules | `(tactic| walk_at "BM") => `(tactic| ((with_reducible refine ChainLk.mono (by with_reducible assumption) ?_); walk_at "SUB"))
def SingLk (w : World) (l : Led) (lk : Addr) : Prop := ∃ (si : Addr), LkIn w l lk si "single" ∧ SingIn w l si
theorem SingLk.mono {w : World} {l l' : Led} {lk : Addr} (h : SingLk w l lk) (s : ∀ p ∈ l, p ∈ l') : SingLk w l' lk := let ⟨si, h1, h2⟩ := h; ⟨si, h1.mono s, h2.mono s⟩
local macro_rules | `(tactic| walk_at "BM") => `(tactic| ((with_reducible refine SingLk.mono (by with_reducible assumption) ?_); walk_at "SUB"))
def AllIn (w : World) (l : Led) (lks k0 k1 k2 k3 : Addr) (r0 r1 r2 : List Int) : Prop := (∃ c : Nat, (lks, listOf #[.ref k0, .ref k1, .ref k2, .ref k3] c) ∈ l) ∧ ChainLk w l k0 r0 ∧ ChainLk w l k1 r1 ∧ ChainLk w l k2 r2 ∧ SingLk w l k3
theorem AllIn.mono {w : World} {l l' : Led} {lks k0 k1 k2 k3 : Addr} {r0 r1 r2 : List Int} (h : AllIn w l lks k0 k1 k2 k3 r0 r1 r2) (s : ∀ p ∈ l, p ∈ l') : AllIn w l' lks k0 k1 k2 k3 r0 r1 r2 := let ⟨⟨c, h0⟩, h1, h2, h3, h4⟩ := h; ⟨⟨c, s _ h0⟩, h1.mono s, h2.mono s, h3.mono s, h4.mono s⟩
local macro_rules | `(tactic| walk_at "BM") => `(tactic| ((with_reducible refine AllIn.mono (by with_reducible assumption) ?_); walk_at "SUB"))
/-- what a lookup does at a place of the row, called from within a table -/
def SubC (w : World) (mean : ExcName → Option Value) (mg mb : Str → Option Value) (lks k0 k1 k2 k3 : Addr) (r0 r1 r2 : List Int) (lk : Addr) (F : St → St) (D : Int) (dn cn : Nat) : Prop :=
  ∀ (rest : Led) (sc b gd S row inf G : Addr) (d at' n k g : Int) (vs : List Value) (oG : Obj) (c : Nat) (tn ta : Tok),
    AllIn w rest lks k0 k1 k2 k3 r0 r1 r2 → SceneIn w rest sc b gd lks lk S d → 0 < d → d ≤ D → BufIn w rest b row vs → 0 ≤ at' → at' < vs.length → vs.length ≤ 100 → vs[at'.toNat]? = some (.ref inf) → (inf, instObj 142 G) ∈ rest →
    (∀ p ∈ rest, p.1 ≠ S) → (∀ p ∈ rest, p.1 ≠ G) → S ≠ G → InfD w oG g → g = 10 + k → 0 ≤ k → k < n → n ≤ 256 →
    Con w mean mg mb 653 dn cn [.ref sc, .int at' ta] ((S, listOf #[.int n tn] c) :: (G, oG) :: rest)
      (fun kq => ∀ t o' g' tn', InfD w o' g' → g' = 10 + (F (n, k)).2 → kq (.int (at' + 1) t) ((S, listOf #[.int (F (n, k)).1 tn'] c) :: (G, o') :: rest))
theorem SubC.use {w : World} {mean : ExcName → Option Value} {mg mb : Str → Option Value} {lks k0 k1 k2 k3 : Addr} {r0 r1 r2 : List Int} {lk : Addr} {F : St → St} {D : Int} {dn cn : Nat} {rest : Led} {sc b gd S row inf G : Addr} {d at' n k g : Int} {vs : List Value} {oG : Obj} {c : Nat} {tn ta : Tok} (hC : SubC w mean mg mb lks k0 k1 k2 k3 r0 r1 r2 lk F D dn cn)
    (h1 : AllIn w rest lks k0 k1 k2 k3 r0 r1 r2) (h2 : SceneIn w rest sc b gd lks lk S d) (h3 : 0 < d) (h4 : d ≤ D) (h5 : BufIn w rest b row vs) (h6 : 0 ≤ at') (h7 : at' < vs.length) (h8 : vs.length ≤ 100) (h9 : vs[at'.toNat]? = some (.ref inf)) (h10 : (inf, instObj 142 G) ∈ rest)
    (h11 : ∀ p ∈ rest, p.1 ≠ S) (h12 : ∀ p ∈ rest, p.1 ≠ G) (h13 : S ≠ G) (h14 : InfD w oG g) (h15 : g = 10 + k) (h16 : 0 ≤ k) (h17 : k < n) (h18 : n ≤ 256) :
    Con w mean mg mb 653 dn cn [.ref sc, .int at' ta] ((S, listOf #[.int n tn] c) :: (G, oG) :: rest)
      (fun kq => ∀ t o' g' tn', InfD w o' g' → g' = 10 + (F (n, k)).2 → kq (.int (at' + 1) t) ((S, listOf #[.int (F (n, k)).1 tn'] c) :: (G, o') :: rest)) :=
  hC rest sc b gd S row inf G d at' n k g vs oG c tn ta h1 h2 h3 h4 h5 h6 h7 h8 h9 h10 h11 h12 h13 h14 h15 h16 h17 h18
section
local macro_rules | `(tactic| walk_at "call ref") => `(tactic| walk_at "HOLD")
set_option maxHeartbeats 8000000 in
theorem c_action {w : World} {mean : ExcName → Option Value} {mg mb : Str → Option Value} {lks k0 k1 k2 k3 lj : Addr} {r0 r1 r2 : List Int} {F : St → St} {D : Int} {dn cn : Nat} {goal : Int} (hC : SubC w mean mg mb lks k0 k1 k2 k3 r0 r1 r2 lj F D dn cn) (hg0 : 0 ≤ goal) (hg4 : goal < 4) (hlj : [Value.ref k0, .ref k1, .ref k2, .ref k3][goal.toNat]? = some (.ref lj))
    {rest : Led} {sc b gd lk S row inf G pl pd pr ac : Addr} {d at' n k g : Int} {vs : List Value} {oG : Obj} {c pc an : Nat} {tn tp t0 tg q1 q2 : Tok} {ve : Value}
    (hall : AllIn w rest lks k0 k1 k2 k3 r0 r1 r2) (hs : SceneIn w rest sc b gd lks lk S d) (hd0 : 0 ≤ d) (hdD : d + 1 ≤ D) (hD6 : D ≤ 6) (hb : BufIn w rest b row vs) (h0 : 0 ≤ at') (h1 : at' < vs.length) (h2 : vs.length ≤ 100) (hx : vs[at'.toNat]? = some (.ref inf)) (hi : (inf, instObj 142 G) ∈ rest)
    (hS : ∀ p ∈ rest, p.1 ≠ S) (hG : ∀ p ∈ rest, p.1 ≠ G) (hSG : S ≠ G) (hD : InfD w oG g) (hgk : g = 10 + k) (hk0 : 0 ≤ k) (hkn : k ≤ n) (hn : n ≤ 256)
    (hp1 : (pl, instObj 522 pd) ∈ rest) (hp2 : (pd, dictOf [⟨PyData.keyHash w.params (PySem.Str.ofString "row"), .str (PySem.Str.ofString "row") q1, .ref pr⟩, ⟨PyData.keyHash w.params (PySem.Str.ofString "end"), .str (PySem.Str.ofString "end") q2, ve⟩] 2) ∈ rest) (hp3 : (pr, listOf #[.int at' tp] pc) ∈ rest) (ha : (ac, tupO [.int 0 t0, .int goal tg] an) ∈ rest) :
    Con w mean mg mb 564 (dn + 12) (cn + 400) [.ref sc, .ref pl, .ref ac, .ref 653] ((S, listOf #[.int n tn] c) :: (G, oG) :: rest)
      (fun kq => ∀ o' g' tn', InfD w o' g' → g' = 10 + (stepA F (n, k)).2 → kq (.bool true) ((S, listOf #[.int (stepA F (n, k)).1 tn'] c) :: (G, o') :: rest)) := by
  have hs2 := hs
  have hb2 := hb
  have hall2 := hall
  obtain ⟨⟨lc, hlks⟩, -⟩ := hall2
  refine hb2.elim fun bd bc TB VB b1 b2 b3 => ?_
  refine hs2.elim fun sd TS s1 s2 => ?_
  unfold Con
  have hfill : (PySem.Challenge.rw_pf0148_01, hd.heap_39) = (PySem.Challenge.rw_pf0148_01, hd.heap_39) := rfl
  intro dp un gd nm cs a ccd cl outer A₀ base h₀ L m s Q E B F X N T hk hdp hun hret
  revert hfill
  k_fill
  intro hfill; clear hfill
  have hMk := kstMark
  k_with_none
  refine wpAny_call ?_
  k_dflt ktr_enter
  (k_steps; (all_goals (try ((with_reducible refine unheld ?_); (first | (refine' con_use2 ?k1_148 ?k2_148 ?k3_148 ?k4_148 ?k5_148 ?kK_148 ?kd_148 ?ku_148 ?q1_148 ?q2_148 (SubC.use ?a0_148 ?b1_148 ?s1_148 ?l1_148 ?l2_148 ?b2_148 ?a1_148 ?a2_148 ?a3_148 ?a4_148 ?m1_148 ?n1_148 ?n2_148 ?a5_148 ?e6_148 ?a7_148 ?a8_148 ?l3_148 ?l4_148) ?_; (case k1_148 => k_asm); (case k2_148 => k_asm); (case k3_148 => k_asm); (case k4_148 => k_asm); (case k5_148 => k_asm); (case kK_148 => first | exact rfl | assumption); (case e6_148 => assumption); (case q1_148 => (walk_at "PICK")); (case q2_148 => (walk_at "PICK")); (case a0_148 => assumption); (case b1_148 => (walk_at "BUND")); (case s1_148 => walk_at "SCENE"); (case l1_148 => omega); (case l2_148 => omega); (case b2_148 => (walk_at "BUND")); (case a1_148 => assumption); (case a2_148 => assumption); (case a3_148 => assumption); (case a4_148 => assumption); (case m1_148 => k_mem); (case n1_148 => k_all); (case n2_148 => k_all); (case a5_148 => assumption); (case a7_148 => assumption); (case a8_148 => assumption); (case l3_148 => omega); (case l4_148 => omega); (case kd_148 => ktr_room); (case ku_148 => ktr_units); k_whole;  intro t9z o9z g9z tn9z u9z w9z h9z tk9z F9z N9z; (try dsimp only); (try k_fold)) | (refine' con_use ?k1_149 ?k2_149 ?k3_149 ?k4_149 ?k5_149 ?kK_149 ?kd_149 ?ku_149 (c_inner _ _ _ _ _ _ _ _ _ _ _ _ _ _ _ _ _ _ _ _ ?s1_149 ?m1_149 ?a1_149 ?a2_149 ?a3_149 ?l1_149) ?_; (case k1_149 => k_asm); (case k2_149 => k_asm); (case k3_149 => k_asm); (case k4_149 => k_asm); (case k5_149 => k_asm); (case kK_149 => first | exact rfl | assumption); (case s1_149 => walk_at "SCENE"); (case m1_149 => k_mem); (case a1_149 => assumption); (case a2_149 => assumption); (case a3_149 => assumption); (case l1_149 => omega); (case kd_149 => ktr_room); (case ku_149 => ktr_units); k_whole;  intro x9z dx9z TX9z o1z o2z h9z tk9z F9z N9z; (try dsimp only); (try k_fold)) | fin_once hold walk1 | fail); (try k_steps)))); (all_goals (try ((with_reducible refine unheld ?_); (first | (refine' con_use2 ?k1_150 ?k2_150 ?k3_150 ?k4_150 ?k5_150 ?kK_150 ?kd_150 ?ku_150 ?q1_150 ?q2_150 (SubC.use ?a0_150 ?b1_150 ?s1_150 ?l1_150 ?l2_150 ?b2_150 ?a1_150 ?a2_150 ?a3_150 ?a4_150 ?m1_150 ?n1_150 ?n2_150 ?a5_150 ?e6_150 ?a7_150 ?a8_150 ?l3_150 ?l4_150) ?_; (case k1_150 => k_asm); (case k2_150 => k_asm); (case k3_150 => k_asm); (case k4_150 => k_asm); (case k5_150 => k_asm); (case kK_150 => first | exact rfl | assumption); (case e6_150 => assumption); (case q1_150 => (walk_at "PICK")); (case q2_150 => (walk_at "PICK")); (case a0_150 => assumption); (case b1_150 => (walk_at "BUND")); (case s1_150 => walk_at "SCENE"); (case l1_150 => omega); (case l2_150 => omega); (case b2_150 => (walk_at "BUND")); (case a1_150 => assumption); (case a2_150 => assumption); (case a3_150 => assumption); (case a4_150 => assumption); (case m1_150 => k_mem); (case n1_150 => k_all); (case n2_150 => k_all); (case a5_150 => assumption); (case a7_150 => assumption); (case a8_150 => assumption); (case l3_150 => omega); (case l4_150 => omega); (case kd_150 => ktr_room); (case ku_150 => ktr_units); k_whole;  intro t9z o9z g9z tn9z u9z w9z h9z tk9z F9z N9z; (try dsimp only); (try k_fold)) | (refine' con_use ?k1_151 ?k2_151 ?k3_151 ?k4_151 ?k5_151 ?kK_151 ?kd_151 ?ku_151 (c_inner _ _ _ _ _ _ _ _ _ _ _ _ _ _ _ _ _ _ _ _ ?s1_151 ?m1_151 ?a1_151 ?a2_151 ?a3_151 ?l1_151) ?_; (case k1_151 => k_asm); (case k2_151 => k_asm); (case k3_151 => k_asm); (case k4_151 => k_asm); (case k5_151 => k_asm); (case kK_151 => first | exact rfl | assumption); (case s1_151 => walk_at "SCENE"); (case m1_151 => k_mem); (case a1_151 => assumption); (case a2_151 => assumption); (case a3_151 => assumption); (case l1_151 => omega); (case kd_151 => ktr_room); (case ku_151 => ktr_units); k_whole;  intro x9z dx9z TX9z o1z o2z h9z tk9z F9z N9z; (try dsimp only); (try k_fold)) | fin_once hold walk1 | fail); (try k_steps)))); (all_goals (try ((with_reducible refine unheld ?_); (first | (refine' con_use2 ?k1_152 ?k2_152 ?k3_152 ?k4_152 ?k5_152 ?kK_152 ?kd_152 ?ku_152 ?q1_152 ?q2_152 (SubC.use ?a0_152 ?b1_152 ?s1_152 ?l1_152 ?l2_152 ?b2_152 ?a1_152 ?a2_152 ?a3_152 ?a4_152 ?m1_152 ?n1_152 ?n2_152 ?a5_152 ?e6_152 ?a7_152 ?a8_152 ?l3_152 ?l4_152) ?_; (case k1_152 => k_asm); (case k2_152 => k_asm); (case k3_152 => k_asm); (case k4_152 => k_asm); (case k5_152 => k_asm); (case kK_152 => first | exact rfl | assumption); (case e6_152 => assumption); (case q1_152 => (walk_at "PICK")); (case q2_152 => (walk_at "PICK")); (case a0_152 => assumption); (case b1_152 => (walk_at "BUND")); (case s1_152 => walk_at "SCENE"); (case l1_152 => omega); (case l2_152 => omega); (case b2_152 => (walk_at "BUND")); (case a1_152 => assumption); (case a2_152 => assumption); (case a3_152 => assumption); (case a4_152 => assumption); (case m1_152 => k_mem); (case n1_152 => k_all); (case n2_152 => k_all); (case a5_152 => assumption); (case a7_152 => assumption); (case a8_152 => assumption); (case l3_152 => omega); (case l4_152 => omega); (case kd_152 => ktr_room); (case ku_152 => ktr_units); k_whole;  intro t9z o9z g9z tn9z u9z w9z h9z tk9z F9z N9z; (try dsimp only); (try k_fold)) | (refine' con_use ?k1_153 ?k2_153 ?k3_153 ?k4_153 ?k5_153 ?kK_153 ?kd_153 ?ku_153 (c_inner _ _ _ _ _ _ _ _ _ _ _ _ _ _ _ _ _ _ _ _ ?s1_153 ?m1_153 ?a1_153 ?a2_153 ?a3_153 ?l1_153) ?_; (case k1_153 => k_asm); (case k2_153 => k_asm); (case k3_153 => k_asm); (case k4_153 => k_asm); (case k5_153 => k_asm); (case kK_153 => first | exact rfl | assumption); (case s1_153 => walk_at "SCENE"); (case m1_153 => k_mem); (case a1_153 => assumption); (case a2_153 => assumption); (case a3_153 => assumption); (case l1_153 => omega); (case kd_153 => ktr_room); (case ku_153 => ktr_units); k_whole;  intro x9z dx9z TX9z o1z o2z h9z tk9z F9z N9z; (try dsimp only); (try k_fold)) | fin_once hold walk1 | fail); (try k_steps)))))
  · rw [stepA_ge (by omega)] at hret
    refine' hret _ _ _ ?zi ?ze _ _ (by k_asm) (cb_drop (by assumption) ?zd)
    case zd => walk_at "SUB"
    case zi => assumption
    case ze => assumption
  · exfalso; omega
  · rw [stepA_lt (by omega)] at hret
    refine' hret _ _ _ ?zi ?ze _ _ (by k_asm) (cb_drop (by assumption) ?zd)
    case zd => walk_at "SUB"
    case zi => assumption
    case ze => assumption
end
section
variable {prog : Program} {w : World} {A : Around} {E : Value → Shared → Prop} {s : Shared} {env : Env} {h₀ : Heap} {x : Str} {body : List Stmt} {Q : Flow → Shared → Prop}
def TurnEnd (h₀ : Heap) (L : Addr) (J : (Str → Option Value) → Led → Prop) (I : Addr) (oI : Obj) (s₁ s₂ : Shared) : Prop :=
  ∃ h' tk m' nx, s₂ = { s₁ with heap := h', toks := tk } ∧ Fr h₀ L h' m' ∧ News h₀ L h' ((I, oI) :: nx) ∧ (∀ p ∈ nx, p.1 ≠ I) ∧ J m' nx
def TurnPost (h₀ : Heap) (L : Addr) (J : (Str → Option Value) → Led → Prop) (I : Addr) (oI : Obj) (s₁ : Shared) (Q : Flow → Shared → Prop) (f : Flow) (s₂ : Shared) : Prop :=
  match f with
  | .ret v => Q (.ret v) s₂
  | .brk => Q .next s₂
  | _ => TurnEnd h₀ L J I oI s₁ s₂
theorem iter_tup {l : Addr} {vs : List Value} {nn : Nat} {m₀ : Str → Option Value} {news : Led} (J : Nat → (Str → Option Value) → Led → Prop)
    (hh : A.handled = none) (hl : (l, tupO vs nn) ∈ news) (F : Fr h₀ env.locals s.heap m₀) (N : News h₀ env.locals s.heap news) (hj : J 0 m₀ news)
    (turn : ∀ i v m₁ news₁ h tk I oI, vs[i]? = some v → (∀ p ∈ news₁, p.1 ≠ I) → (l, tupO vs nn) ∈ news₁ → J i m₁ news₁ → Fr h₀ env.locals h (fun y => if y = x then some v else m₁ y) → News h₀ env.locals h ((I, oI) :: news₁) →
      wpAny (model prog w) A (execs body env) (TurnPost h₀ env.locals (fun m' nx => (l, tupO vs nn) ∈ nx ∧ J (i + 1) m' nx) I oI { s with heap := h, toks := tk } Q) E { s with heap := h, toks := tk })
    (done : ∀ m₁ news₁ h tk, J vs.length m₁ news₁ → Fr h₀ env.locals h m₁ → News h₀ env.locals h news₁ → Q .next { s with heap := h, toks := tk }) :
    wpAny (model prog w) A (pyIter (.ref l)) (fun it s₂ => LoopAtV prog w A h₀ env x body Q E it s₂) E s := by
  have hol : s.heap.get? l = some (tupO vs nn) := (N _ hl).1
  have hT : s.heap.IsTuple l vs.toArray := ⟨_, hol, rfl, nn, rfl⟩
  have hne : l ≠ s.heap.objs.size := Nat.ne_of_lt (Heap.lt_size hol)
  have hI0 : h₀.get? s.heap.objs.size = none := next_is_new F
  refine wpAny_pyIter_tuple hT ?_
  have W := Walks.tuple (prog := prog) (w := w) hh s.heap.objs.size l hne vs.toArray
  rw [List.size_toArray] at W
  refine ⟨_, _, _, vs.length, _, _, m₀, news, (fun i m nx => (l, tupO vs nn) ∈ nx ∧ J i m nx), rfl, W, ?_, ?_, ?_, ⟨⟨_, Heap.get?_push_size _ rfl, rfl, rfl⟩, hT.push _⟩, F.push _, (fun p hp => ⟨Heap.get?_push_of_some _ (N p hp).1, (N p hp).2⟩), ⟨hl, hj⟩, ?_, ?_⟩
  · intro hm
    rcases List.mem_cons.mp hm with e | hm
    · exact absurd F.ns.lt (e ▸ Nat.lt_irrefl _)
    · exact (N _ hl).2.1 (List.mem_singleton.mp hm).symm
  · intro b hb
    rw [List.mem_singleton.mp hb]
    exact hI0
  · intro p hp hI
    exact absurd (Heap.lt_size (N p hp).1) ((List.mem_singleton.mp hI) ▸ Nat.lt_irrefl _)
  · rintro i v m₁ news₁ s₁ own ⟨hh', tk', rfl⟩ hin hP ⟨hl₁, hJ⟩ hoff hown hget hfp hst F₁ N₁
    have hP' : vs[i]? = some v := by simpa using hP
    obtain ⟨⟨oI, hoI, _⟩, _⟩ := id hst
    have hoff' : ∀ p ∈ news₁, p.1 ≠ s.heap.objs.size := fun p hp e => hoff p hp (List.mem_singleton.mpr e)
    have hmem := hfp _ (List.mem_cons.mpr (.inl rfl)) hI0 _ hoI
    have N₂ : News h₀ env.locals hh' ((s.heap.objs.size, oI) :: news₁) := fun p hp => by
      rcases List.mem_cons.mp hp with rfl | hp
      · exact N₁ _ (List.mem_append_left _ hmem)
      · exact N₁ _ (List.mem_append_right _ hp)
    have hlo : hh'.get? l = some (tupO vs nn) := (N₁ _ (List.mem_append_right _ hl₁)).1
    refine wpAny_mono (turn i v m₁ news₁ hh' tk' _ oI hP' hoff' hl₁ hJ F₁ N₂) (fun f s₂ p => ?_) fun _ _ e => e
    have fin : TurnEnd h₀ env.locals (fun m' nx => (l, tupO vs nn) ∈ nx ∧ J (i + 1) m' nx) s.heap.objs.size oI { s with heap := hh', toks := tk' } s₂ →
        LoopStepU h₀ env.locals [s.heap.objs.size] own (fun m nx => (l, tupO vs nn) ∈ nx ∧ J (i + 1) m nx) { s with heap := hh', toks := tk' } .next s₂ := by
      rintro ⟨h', tk, m', nx, e, F', N', ho, hl', hm⟩
      refine ⟨rfl, h', tk, m', nx, e, F', fun p hp => ?_, fun p hp hq => ho p hp (List.mem_singleton.mp hq), hl', hm⟩
      rcases List.mem_append.mp hp with h | h
      · have hg : hh'.get? p.1 = some p.2 := hget p h
        rcases List.mem_cons.mp (hown p h) with h2 | h2
        · have : p = (s.heap.objs.size, oI) := Prod.ext h2 (by rw [h2] at hg; exact (Option.some.inj (hg.symm.trans hoI)))
          rw [this]; exact N' _ (.head _)
        · have h3 := List.mem_singleton.mp h2
          have : p = (l, tupO vs nn) := Prod.ext h3 (by rw [h3] at hg; exact (Option.some.inj (hg.symm.trans hlo)))
          rw [this]; exact N' _ (.tail _ hl')
      · exact N' p (.tail _ h)
    cases f with
    | ret v => exact .ret p
    | brk => exact .brk p
    | next => exact .next (fin p)
    | cont => exact .cont (fin p)
  · rintro h' tk m' news' F' N' _ ⟨_, hJ⟩
    exact done m' news' h' tk hJ F' N'
theorem iter_tupL {l : Addr} {vs : List Value} {nn : Nat} {m₀ : Str → Option Value} {news : Led} (J : Nat → Led → Prop)
    (hh : A.handled = none) (hl : (l, tupO vs nn) ∈ news) (F : Fr h₀ env.locals s.heap m₀) (N : News h₀ env.locals s.heap news) (hj : J 0 news)
    (turn : ∀ i v news₁ h tk I oI, vs[i]? = some v → (∀ p ∈ news₁, p.1 ≠ I) → (l, tupO vs nn) ∈ news₁ → J i news₁ → Fr h₀ env.locals h (fun y => if y = x then some v else m₀ y) → News h₀ env.locals h ((I, oI) :: news₁) →
      wpAny (model prog w) A (execs body env) (TurnPost h₀ env.locals (fun m' nx => (l, tupO vs nn) ∈ nx ∧ J (i + 1) nx ∧ ∀ z, z ≠ x → m' z = m₀ z) I oI { s with heap := h, toks := tk } Q) E { s with heap := h, toks := tk })
    (done : ∀ (u : Str → Option Value) news₁ h tk, J vs.length news₁ → Fr h₀ env.locals h (fun y => if y = x then u y else m₀ y) → News h₀ env.locals h news₁ → Q .next { s with heap := h, toks := tk }) :
    wpAny (model prog w) A (pyIter (.ref l)) (fun it s₂ => LoopAtV prog w A h₀ env x body Q E it s₂) E s := by
  refine iter_tup (fun i m nx => J i nx ∧ ∀ z, z ≠ x → m z = m₀ z) hh hl F N ⟨hj, fun _ _ => rfl⟩ ?_ ?_
  · rintro i v m₁ news₁ h tk I oI hv ho hl₁ ⟨hJ, hm⟩ F₁ N₁
    have e : (fun y => if y = x then some v else m₁ y) = fun y => if y = x then some v else m₀ y := by
      funext y
      by_cases hy : y = x
      · simp [hy]
      · simp only [if_neg hy]; exact hm y hy
    rw [e] at F₁
    exact turn i v news₁ h tk I oI hv ho hl₁ hJ F₁ N₁
  · rintro m₁ news₁ h tk ⟨hJ, hm⟩ F₁ N₁
    have e : (fun y => if y = x then m₁ y else m₀ y) = m₁ := by
      funext y
      by_cases hy : y = x
      · simp [hy]
      · simp only [if_neg hy]; exact (hm y hy).symm
    exact done m₁ news₁ h tk hJ (by rw [e]; exact F₁) N₁
theorem turn_end {L : Addr} {J : (Str → Option Value) → Led → Prop} {I : Addr} {oI : Obj} {s₁ : Shared} {h' : Heap} {tk : Nat} {m' : Str → Option Value} {all nx : Led} (F : Fr h₀ L h' m') (N : News h₀ L h' all) (sub : ∀ p ∈ (I, oI) :: nx, p ∈ all) (off : ∀ p ∈ nx, p.1 ≠ I) (hJ : J m' nx) :
    TurnEnd h₀ L J I oI s₁ { s₁ with heap := h', toks := tk } := ⟨h', tk, m', nx, rfl, F, fun p hp => N p (sub p hp), off, hJ⟩
end
theorem ActsAre.length {l : Led} {vs : List Value} {row : List Int} (h : ActsAre l vs row) : vs.length = row.length := by
  induction h with
  | nil => rfl
  | cons _ _ ih => simp [ih]
theorem ActsAre.get {l : Led} {vs : List Value} {row : List Int} (h : ActsAre l vs row) : ∀ {i : Nat} {v : Value}, vs[i]? = some v → ∃ (a : Addr) (t0 tg : Tok) (n : Nat) (g : Int), v = .ref a ∧ row[i]? = some g ∧ (a, tupO [.int 0 t0, .int g tg] n) ∈ l := by
  induction h with
  | nil => intro i v hv; simp at hv
  | cons hm _ ih =>
    intro i v hv
    cases i with
    | zero => simp at hv; subst hv; exact ⟨_, _, _, _, _, rfl, rfl, hm⟩
    | succ i => exact ih (by simpa using hv)
theorem acts_take {H : Int → St → St} {row : List Int} {i : Nat} {g : Int} (h : row[i]? = some g) (p : St) : acts H (row.take (i + 1)) p = stepA (H g) (acts H (row.take i) p) := by
  unfold acts
  rw [List.take_add_one, h]
  simp
theorem acts_take_ok {H : Int → St → St} {row : List Int} (hH : ∀ g ∈ row, FOk (H g)) {p : St} (hp : Ok p) (i : Nat) : Ok (acts H (row.take i) p) := acts_ok (fun g hg => hH g (List.mem_of_mem_take hg)) hp
def Blocked (P : Prop) : Prop := P
theorem blk {P : Prop} (h : Blocked P) : P := h
local macro_rules | `(tactic| walk_at "TurnPost") => `(tactic| (dsimp only [TurnPost]))
local macro_rules | `(tactic| walk_at "TurnEnd") => `(tactic| refine blk ?_)
local macro_rules | `(tactic| walk_at "ITB") => `(tactic| ((with_reducible show wpAny _ _ (pyIter (Value.ref _)) (fun it s₂ => LoopAtV _ _ _ _ _ _ _ _ _ it s₂) _ _); refine blk ?_))
section
local macro_rules | `(tactic| walk_at "pyIter ref") => `(tactic| walk_at "ITB")
local macro_rules | `(tactic| walk_at "call ref") => `(tactic| walk_at "HOLD")
set_option maxHeartbeats 8000000 in
theorem c_actions {w : World} {mean : ExcName → Option Value} {mg mb : Str → Option Value} {lks k0 k1 k2 k3 : Addr} {r0 r1 r2 row' : List Int} {H : Int → St → St} {D : Int} {dn cn : Nat} (hH : ∀ goal ∈ row', ∃ lj, 0 ≤ goal ∧ goal < 4 ∧ [Value.ref k0, .ref k1, .ref k2, .ref k3][goal.toNat]? = some (.ref lj) ∧ SubC w mean mg mb lks k0 k1 k2 k3 r0 r1 r2 lj (H goal) D dn cn ∧ FOk (H goal))
    {rest : Led} {sc b gd lk S row inf G pl pd pr act : Addr} {d at' n k g : Int} {vs avs : List Value} {oG : Obj} {c pc an : Nat} {tn te tp q1 q2 : Tok}
    (hall : AllIn w rest lks k0 k1 k2 k3 r0 r1 r2) (hs : SceneIn w rest sc b gd lks lk S d) (hd0 : 0 ≤ d) (hdD : d + 1 ≤ D) (hD6 : D ≤ 6) (hb : BufIn w rest b row vs) (h0 : 0 ≤ at') (h1 : at' < vs.length) (h2 : vs.length ≤ 100) (hx : vs[at'.toNat]? = some (.ref inf)) (hi : (inf, instObj 142 G) ∈ rest)
    (hS : ∀ p ∈ rest, p.1 ≠ S) (hG : ∀ p ∈ rest, p.1 ≠ G) (hSG : S ≠ G) (hD : InfD w oG g) (hgk : g = 10 + k) (hok : Ok (n, k))
    (hp1 : (pl, instObj 522 pd) ∈ rest) (hp2 : (pd, dictOf [⟨PyData.keyHash w.params (PySem.Str.ofString "row"), .str (PySem.Str.ofString "row") q1, .ref pr⟩, ⟨PyData.keyHash w.params (PySem.Str.ofString "end"), .str (PySem.Str.ofString "end") q2, .int (at' + 1) te⟩] 2) ∈ rest) (hp3 : (pr, listOf #[.int at' tp] pc) ∈ rest) (ha : (act, tupO avs an) ∈ rest) (hacts : ActsAre rest avs row') :
    Con w mean mg mb 571 (dn + 16) (cn + 420) [.ref sc, .ref pl, .ref act, .ref 653] ((S, listOf #[.int n tn] c) :: (G, oG) :: rest)
      (fun kq => ∀ o' g' tn', InfD w o' g' → g' = 10 + (acts H row' (n, k)).2 → kq (.int (at' + 1) te) ((S, listOf #[.int (acts H row' (n, k)).1 tn'] c) :: (G, o') :: rest)) := by
  unfold Con
  have hfill : (PySem.Challenge.rw_pf0148_01, hd.heap_39) = (PySem.Challenge.rw_pf0148_01, hd.heap_39) := rfl
  intro dp un gd nm cs a ccd cl outer A₀ base h₀ L m s Q E B F X N T hk hdp hun hret
  revert hfill
  k_fill
  intro hfill; clear hfill
  have hMk := kstMark
  k_with_none
  refine wpAny_call ?_
  k_dflt ktr_enter
  (k_steps; (all_goals (try ((with_reducible refine unheld ?_); (first | (refine' con_use2 ?k1_154 ?k2_154 ?k3_154 ?k4_154 ?k5_154 ?kK_154 ?kd_154 ?ku_154 ?q1_154 ?q2_154 (c_action ?e0_154 ?l91_154 ?l92_154 ?a3_154 ?b1_154 ?s1_154 ?a4_154 ?l1_154 ?a5_154 ?b2_154 ?l93_154 ?a7_154 ?a8_154 ?a9_154 ?m1_154 ?n1_154 ?n2_154 ?a10_154 ?e11_154 ?a12_154 ?l2_154 ?l3_154 ?l4_154 ?f2_154 ?f3_154 ?f4_154 ?f5_154) ?_; (case k1_154 => k_asm); (case k2_154 => k_asm); (case k3_154 => k_asm); (case k4_154 => k_asm); (case k5_154 => k_asm); (case kK_154 => first | exact rfl | assumption); (case e0_154 => assumption); (case e11_154 => assumption); (case q1_154 => (walk_at "PICK")); (case q2_154 => (walk_at "PICK")); (case f2_154 => k_mem); (case f3_154 => k_mem); (case f4_154 => k_mem); (case f5_154 => k_mem); (case l91_154 => omega); (case l92_154 => omega); (case a3_154 => assumption); (case b1_154 => (walk_at "BUND")); (case s1_154 => walk_at "SCENE"); (case a4_154 => assumption); (case l1_154 => omega); (case a5_154 => assumption); (case b2_154 => (walk_at "BUND")); (case l93_154 => omega); (case a7_154 => assumption); (case a8_154 => assumption); (case a9_154 => assumption); (case m1_154 => k_mem); (case n1_154 => k_all); (case n2_154 => k_all); (case a10_154 => assumption); (case a12_154 => assumption); (case l2_154 => omega); (case l3_154 => omega); (case l4_154 => omega); (case kd_154 => ktr_room); (case ku_154 => ktr_units); k_whole;  intro o9z g9z tn9z u9z w9z h9z tk9z F9z N9z; (try dsimp only); (try k_fold)) | fin_once hold walk1 | fail); (try k_steps)))); (all_goals (try ((with_reducible refine unheld ?_); (first | (refine' con_use2 ?k1_155 ?k2_155 ?k3_155 ?k4_155 ?k5_155 ?kK_155 ?kd_155 ?ku_155 ?q1_155 ?q2_155 (c_action ?e0_155 ?l91_155 ?l92_155 ?a3_155 ?b1_155 ?s1_155 ?a4_155 ?l1_155 ?a5_155 ?b2_155 ?l93_155 ?a7_155 ?a8_155 ?a9_155 ?m1_155 ?n1_155 ?n2_155 ?a10_155 ?e11_155 ?a12_155 ?l2_155 ?l3_155 ?l4_155 ?f2_155 ?f3_155 ?f4_155 ?f5_155) ?_; (case k1_155 => k_asm); (case k2_155 => k_asm); (case k3_155 => k_asm); (case k4_155 => k_asm); (case k5_155 => k_asm); (case kK_155 => first | exact rfl | assumption); (case e0_155 => assumption); (case e11_155 => assumption); (case q1_155 => (walk_at "PICK")); (case q2_155 => (walk_at "PICK")); (case f2_155 => k_mem); (case f3_155 => k_mem); (case f4_155 => k_mem); (case f5_155 => k_mem); (case l91_155 => omega); (case l92_155 => omega); (case a3_155 => assumption); (case b1_155 => (walk_at "BUND")); (case s1_155 => walk_at "SCENE"); (case a4_155 => assumption); (case l1_155 => omega); (case a5_155 => assumption); (case b2_155 => (walk_at "BUND")); (case l93_155 => omega); (case a7_155 => assumption); (case a8_155 => assumption); (case a9_155 => assumption); (case m1_155 => k_mem); (case n1_155 => k_all); (case n2_155 => k_all); (case a10_155 => assumption); (case a12_155 => assumption); (case l2_155 => omega); (case l3_155 => omega); (case l4_155 => omega); (case kd_155 => ktr_room); (case ku_155 => ktr_units); k_whole;  intro o9z g9z tn9z u9z w9z h9z tk9z F9z N9z; (try dsimp only); (try k_fold)) | fin_once hold walk1 | fail); (try k_steps)))))
  unfold Blocked
  refine' iter_tupL (fun i nx => ∃ o g tn, nx = (S, listOf #[.int (acts H (row'.take i) (n, k)).1 tn] c) :: (G, o) :: rest ∧ InfD w o g ∧ g = 10 + (acts H (row'.take i) (n, k)).2) ?zh ?zl ?zF ?zN ?zj ?zt ?zd
  case zF => k_asm
  case zN => k_asm
  case zh => rfl
  case zl => k_mem
  case zj => exact ⟨_, _, _, rfl, hD, hgk⟩
  case zd =>
    rintro u news₁ h tk ⟨o', g', tn', rfl, hi', hg'⟩ F₁ N₁
    rw [hacts.length, List.take_length] at hg' N₁
    dsimp only
    (k_steps; (all_goals (try ((with_reducible refine unheld ?_); (first | (refine' con_use2 ?k1_156 ?k2_156 ?k3_156 ?k4_156 ?k5_156 ?kK_156 ?kd_156 ?ku_156 ?q1_156 ?q2_156 (c_action ?e0_156 ?l91_156 ?l92_156 ?a3_156 ?b1_156 ?s1_156 ?a4_156 ?l1_156 ?a5_156 ?b2_156 ?l93_156 ?a7_156 ?a8_156 ?a9_156 ?m1_156 ?n1_156 ?n2_156 ?a10_156 ?e11_156 ?a12_156 ?l2_156 ?l3_156 ?l4_156 ?f2_156 ?f3_156 ?f4_156 ?f5_156) ?_; (case k1_156 => k_asm); (case k2_156 => k_asm); (case k3_156 => k_asm); (case k4_156 => k_asm); (case k5_156 => k_asm); (case kK_156 => first | exact rfl | assumption); (case e0_156 => assumption); (case e11_156 => assumption); (case q1_156 => (walk_at "PICK")); (case q2_156 => (walk_at "PICK")); (case f2_156 => k_mem); (case f3_156 => k_mem); (case f4_156 => k_mem); (case f5_156 => k_mem); (case l91_156 => omega); (case l92_156 => omega); (case a3_156 => assumption); (case b1_156 => (walk_at "BUND")); (case s1_156 => walk_at "SCENE"); (case a4_156 => assumption); (case l1_156 => omega); (case a5_156 => assumption); (case b2_156 => (walk_at "BUND")); (case l93_156 => omega); (case a7_156 => assumption); (case a8_156 => assumption); (case a9_156 => assumption); (case m1_156 => k_mem); (case n1_156 => k_all); (case n2_156 => k_all); (case a10_156 => assumption); (case a12_156 => assumption); (case l2_156 => omega); (case l3_156 => omega); (case l4_156 => omega); (case kd_156 => ktr_room); (case ku_156 => ktr_units); k_whole;  intro o9z g9z tn9z u9z w9z h9z tk9z F9z N9z; (try dsimp only); (try k_fold)) | fin_once hold walk1 | fail); (try k_steps)))); (all_goals (try ((with_reducible refine unheld ?_); (first | (refine' con_use2 ?k1_157 ?k2_157 ?k3_157 ?k4_157 ?k5_157 ?kK_157 ?kd_157 ?ku_157 ?q1_157 ?q2_157 (c_action ?e0_157 ?l91_157 ?l92_157 ?a3_157 ?b1_157 ?s1_157 ?a4_157 ?l1_157 ?a5_157 ?b2_157 ?l93_157 ?a7_157 ?a8_157 ?a9_157 ?m1_157 ?n1_157 ?n2_157 ?a10_157 ?e11_157 ?a12_157 ?l2_157 ?l3_157 ?l4_157 ?f2_157 ?f3_157 ?f4_157 ?f5_157) ?_; (case k1_157 => k_asm); (case k2_157 => k_asm); (case k3_157 => k_asm); (case k4_157 => k_asm); (case k5_157 => k_asm); (case kK_157 => first | exact rfl | assumption); (case e0_157 => assumption); (case e11_157 => assumption); (case q1_157 => (walk_at "PICK")); (case q2_157 => (walk_at "PICK")); (case f2_157 => k_mem); (case f3_157 => k_mem); (case f4_157 => k_mem); (case f5_157 => k_mem); (case l91_157 => omega); (case l92_157 => omega); (case a3_157 => assumption); (case b1_157 => (walk_at "BUND")); (case s1_157 => walk_at "SCENE"); (case a4_157 => assumption); (case l1_157 => omega); (case a5_157 => assumption); (case b2_157 => (walk_at "BUND")); (case l93_157 => omega); (case a7_157 => assumption); (case a8_157 => assumption); (case a9_157 => assumption); (case m1_157 => k_mem); (case n1_157 => k_all); (case n2_157 => k_all); (case a10_157 => assumption); (case a12_157 => assumption); (case l2_157 => omega); (case l3_157 => omega); (case l4_157 => omega); (case kd_157 => ktr_room); (case ku_157 => ktr_units); k_whole;  intro o9z g9z tn9z u9z w9z h9z tk9z F9z N9z; (try dsimp only); (try k_fold)) | fin_once hold walk1 | fail); (try k_steps)))))
    exact hret _ _ _ hi' hg' _ _ (by k_asm) (by k_asm)
  case zt =>
    rintro i v news₁ h tk I oI hv ho hl₁ ⟨o', g', tn', rfl, hi', hg'⟩ F₁ N₁
    obtain ⟨ac, t0, tg, an', goal, rfl, hgo, hac⟩ := hacts.get hv
    obtain ⟨lj, hgo0, hgo4, hlj, hC, hFok⟩ := hH goal (List.mem_of_getElem? hgo)
    have hokp := acts_take_ok (fun g hg => (hH g hg).elim fun _ h => h.2.2.2.2) hok i
    have hnext := acts_take (H := H) hgo (n, k)
    rw [hnext]
    generalize acts H (row'.take i) (n, k) = p at *
    obtain ⟨hok1, hok2, hok3⟩ := hokp
    clear hD hgk hok
    (k_steps; (all_goals (try ((with_reducible refine unheld ?_); (first | (refine' con_use2 ?k1_158 ?k2_158 ?k3_158 ?k4_158 ?k5_158 ?kK_158 ?kd_158 ?ku_158 ?q1_158 ?q2_158 (c_action ?e0_158 ?l91_158 ?l92_158 ?a3_158 ?b1_158 ?s1_158 ?a4_158 ?l1_158 ?a5_158 ?b2_158 ?l93_158 ?a7_158 ?a8_158 ?a9_158 ?m1_158 ?n1_158 ?n2_158 ?a10_158 ?e11_158 ?a12_158 ?l2_158 ?l3_158 ?l4_158 ?f2_158 ?f3_158 ?f4_158 ?f5_158) ?_; (case k1_158 => k_asm); (case k2_158 => k_asm); (case k3_158 => k_asm); (case k4_158 => k_asm); (case k5_158 => k_asm); (case kK_158 => first | exact rfl | assumption); (case e0_158 => assumption); (case e11_158 => assumption); (case q1_158 => (walk_at "PICK")); (case q2_158 => (walk_at "PICK")); (case f2_158 => k_mem); (case f3_158 => k_mem); (case f4_158 => k_mem); (case f5_158 => k_mem); (case l91_158 => omega); (case l92_158 => omega); (case a3_158 => assumption); (case b1_158 => (walk_at "BUND")); (case s1_158 => walk_at "SCENE"); (case a4_158 => assumption); (case l1_158 => omega); (case a5_158 => assumption); (case b2_158 => (walk_at "BUND")); (case l93_158 => omega); (case a7_158 => assumption); (case a8_158 => assumption); (case a9_158 => assumption); (case m1_158 => k_mem); (case n1_158 => k_all); (case n2_158 => k_all); (case a10_158 => assumption); (case a12_158 => assumption); (case l2_158 => omega); (case l3_158 => omega); (case l4_158 => omega); (case kd_158 => ktr_room); (case ku_158 => ktr_units); k_whole;  intro o9z g9z tn9z u9z w9z h9z tk9z F9z N9z; (try dsimp only); (try k_fold)) | fin_once hold walk1 | fail); (try k_steps)))); (all_goals (try ((with_reducible refine unheld ?_); (first | (refine' con_use2 ?k1_159 ?k2_159 ?k3_159 ?k4_159 ?k5_159 ?kK_159 ?kd_159 ?ku_159 ?q1_159 ?q2_159 (c_action ?e0_159 ?l91_159 ?l92_159 ?a3_159 ?b1_159 ?s1_159 ?a4_159 ?l1_159 ?a5_159 ?b2_159 ?l93_159 ?a7_159 ?a8_159 ?a9_159 ?m1_159 ?n1_159 ?n2_159 ?a10_159 ?e11_159 ?a12_159 ?l2_159 ?l3_159 ?l4_159 ?f2_159 ?f3_159 ?f4_159 ?f5_159) ?_; (case k1_159 => k_asm); (case k2_159 => k_asm); (case k3_159 => k_asm); (case k4_159 => k_asm); (case k5_159 => k_asm); (case kK_159 => first | exact rfl | assumption); (case e0_159 => assumption); (case e11_159 => assumption); (case q1_159 => (walk_at "PICK")); (case q2_159 => (walk_at "PICK")); (case f2_159 => k_mem); (case f3_159 => k_mem); (case f4_159 => k_mem); (case f5_159 => k_mem); (case l91_159 => omega); (case l92_159 => omega); (case a3_159 => assumption); (case b1_159 => (walk_at "BUND")); (case s1_159 => walk_at "SCENE"); (case a4_159 => assumption); (case l1_159 => omega); (case a5_159 => assumption); (case b2_159 => (walk_at "BUND")); (case l93_159 => omega); (case a7_159 => assumption); (case a8_159 => assumption); (case a9_159 => assumption); (case m1_159 => k_mem); (case n1_159 => k_all); (case n2_159 => k_all); (case a10_159 => assumption); (case a12_159 => assumption); (case l2_159 => omega); (case l3_159 => omega); (case l4_159 => omega); (case kd_159 => ktr_room); (case ku_159 => ktr_units); k_whole;  intro o9z g9z tn9z u9z w9z h9z tk9z F9z N9z; (try dsimp only); (try k_fold)) | fin_once hold walk1 | fail); (try k_steps)))))
    unfold Blocked
    refine' turn_end ?ua ?ub ?uc ?ud ⟨?ul, ⟨_, _, _, rfl, ?ui, ?ug⟩, ?us⟩
    case ua => k_asm
    case ub => k_asm
    case ui => assumption
    case ug => assumption
    case uc => walk_at "SUB"
    case ud => k_all
    case ul => k_mem
    case us => exact fun z hz => if_neg hz
end
section
variable {prog : Program} {w : World} {A : Around} {E : Value → Shared → Prop} {s : Shared} {h₀ : Heap} {L : Addr} {m : Str → Option Value} {env : Env}
/-- a comprehension by induction: J tells the ledger after i turns -/
theorem comp_ind {elt : Expr} {x : Str} {scope : Scope} {cl : List (Str × Addr)} {S : Led → Prop} {P : Nat → Value → Prop} {Fin : List Value → Led → Prop} {news : Led} (n : Nat) (J : Nat → List Value → Led → Prop)
    (start : J 0 [] news)
    (turn : ∀ i ys nx v I oI C oC D m₂ h tk (E' : Value → Shared → Prop), i < n → J i ys nx → P i v → LCg.NsObj oC m₂ → m₂ x = some v → Fr h₀ L h m → News h₀ L h ((I, oI) :: (C, oC) :: (D, LCg.lst ys) :: nx) → LCg.Off3 I C D nx → ((@Ne Nat I C) ∧ (@Ne Nat I D) ∧ (@Ne Nat C D)) →
      wpAny (model prog w) A (eval elt (compEnvC scope cl C env)) (LCg.CompEnd h₀ L m { s with heap := h, toks := tk } I oI C oC D (LCg.lst ys) S (fun y nx' => J (i + 1) (ys ++ [y]) nx')) E' { s with heap := h, toks := tk })
    (fin : ∀ ys nx, J n ys nx → Fin ys nx) : LCg.CompRest prog w A h₀ L m env elt x scope cl s S P Fin n 0 [] news := by
  have key : ∀ k i ys nx, i + k = n → J i ys nx → LCg.CompRest prog w A h₀ L m env elt x scope cl s S P Fin k i ys nx := by
    intro k
    induction k with
    | zero =>
      intro i ys nx hk hJ
      obtain rfl : i = n := by omega
      exact fin ys nx hJ
    | succ k ih =>
      intro i ys nx hk hJ v I oI C oC D m₂ h tk E' hv hC hx F N off ne
      refine wpAny_mono (turn i ys nx v I oI C oC D m₂ h tk E' (by omega) hJ hv hC hx F N off ne) (fun y s₂ p => ?_) fun _ _ e => e
      obtain ⟨h', tk', nx', e1, e2, e3, e4, e5, e6⟩ := p
      exact ⟨h', tk', nx', e1, e2, e3, e4, e5, ih (i + 1) (ys ++ [y]) nx' (by omega) e6⟩
  exact key n 0 [] news (by omega) start
/-- a loop over a range: J tells the locals and the ledger after i turns -/
theorem iter_rng {env : Env} {x : Str} {body : List Stmt} {Q : Flow → Shared → Prop} {r : Addr} {a₀ b₀ : Int} {t₀ u₀ v₀ : Tok} (n : Nat) {m₀ : Str → Option Value} {news : Led} (J : Nat → (Str → Option Value) → Led → Prop)
    (hh : A.handled = none) (hr : IsRange s.heap r a₀ b₀ 1 t₀ u₀ v₀) (hsmall : Builtin.Range.small a₀ b₀ 1 = true) (hsz : Builtin.Range.rangeSize a₀ b₀ 1 = (n : Int)) (F : Fr h₀ env.locals s.heap m₀) (N : News h₀ env.locals s.heap news) (hj : J 0 m₀ news)
    (turn : ∀ i k t m₁ news₁ h tk I oI, i < n → k = a₀ + (i : Int) → (∀ p ∈ news₁, p.1 ≠ I) → J i m₁ news₁ → Fr h₀ env.locals h (fun y => if y = x then some (.int k t) else m₁ y) → News h₀ env.locals h ((I, oI) :: news₁) →
      wpAny (model prog w) A (execs body env) (TurnPost h₀ env.locals (J (i + 1)) I oI { s with heap := h, toks := tk } Q) E { s with heap := h, toks := tk })
    (done : ∀ m₁ news₁ h tk, J n m₁ news₁ → Fr h₀ env.locals h m₁ → News h₀ env.locals h news₁ → Q .next { s with heap := h, toks := tk }) :
    wpAny (model prog w) A (pyIter (.ref r)) (fun it s₂ => LoopAtV prog w A h₀ env x body Q E it s₂) E s := by
  refine wpAny_pyIter_range hr hsmall ?_
  have hI0 : h₀.get? s.heap.objs.size = none := next_is_new F
  have W := LCg.range_walks (prog := prog) (w := w) (I := s.heap.objs.size) hh a₀ n
  refine ⟨_, _, _, n, _, _, m₀, news, J, rfl, W, ?_, ?_, ?_, (by show IsRangeIter _ _ _ _ _; rw [hsz]; simpa using Heap.get?_push_size _ rfl), F.push _, (fun p hp => ⟨Heap.get?_push_of_some _ (N p hp).1, (N p hp).2⟩), hj, ?_, ?_⟩
  · intro hm
    exact absurd F.ns.lt ((List.mem_singleton.mp hm) ▸ Nat.lt_irrefl _)
  · intro b hb
    rw [List.mem_singleton.mp hb]
    exact hI0
  · intro p hp hI
    exact absurd (Heap.lt_size (N p hp).1) ((List.mem_singleton.mp hI) ▸ Nat.lt_irrefl _)
  · rintro i v m₁ news₁ s₁ own ⟨hh', tk', rfl⟩ hin hP hJ hoff hown hget hfp hst F₁ N₁
    obtain ⟨t, rfl⟩ := hP
    obtain ⟨oI, hoI⟩ : ∃ oI, hh'.get? s.heap.objs.size = some oI := ⟨_, hst⟩
    have hoff' : ∀ p ∈ news₁, p.1 ≠ s.heap.objs.size := fun p hp e => hoff p hp (List.mem_singleton.mpr e)
    have hmem := hfp _ (List.mem_singleton.mpr rfl) hI0 _ hoI
    have N₂ := fun (p : Addr × Obj) (hp : p ∈ (s.heap.objs.size, oI) :: news₁) => (List.mem_cons.mp hp).elim (fun e => N₁ p (List.mem_append_left _ (e ▸ hmem))) (fun hp => N₁ p (List.mem_append_right _ hp))
    refine wpAny_mono (turn i _ t m₁ news₁ hh' tk' _ oI hin rfl hoff' hJ F₁ N₂) (fun f s₂ p => ?_) fun _ _ e => e
    have fin : TurnEnd h₀ env.locals (J (i + 1)) s.heap.objs.size oI { s with heap := hh', toks := tk' } s₂ →
        LoopStepU h₀ env.locals [s.heap.objs.size] own (J (i + 1)) { s with heap := hh', toks := tk' } .next s₂ := by
      rintro ⟨h', tk, m', nx, e, F', N', ho, hm⟩
      refine ⟨rfl, h', tk, m', nx, e, F', fun p hp => ?_, fun p hp hq => ho p hp (List.mem_singleton.mp hq), hm⟩
      rcases List.mem_append.mp hp with h | h
      · have hg : hh'.get? p.1 = some p.2 := hget p h
        have h2 := List.mem_singleton.mp (hown p h)
        have : p = (s.heap.objs.size, oI) := Prod.ext h2 (by rw [h2] at hg; exact (Option.some.inj (hg.symm.trans hoI)))
        rw [this]; exact N' _ (.head _)
      · exact N' p (.tail _ h)
    cases f with
    | ret v => exact .ret p
    | brk => exact .brk p
    | next => exact .next (fin p)
    | cont => exact .cont (fin p)
  · rintro h' tk m' news' F' N' _ hJ
    exact done m' news' h' tk hJ F' N'
theorem iter_rngL {env : Env} {x : Str} {body : List Stmt} {Q : Flow → Shared → Prop} {r : Addr} {a₀ b₀ : Int} {t₀ u₀ v₀ : Tok} (n : Nat) {m₀ : Str → Option Value} {news : Led} (J : Nat → Led → Prop)
    (hh : A.handled = none) (hr : IsRange s.heap r a₀ b₀ 1 t₀ u₀ v₀) (hsmall : Builtin.Range.small a₀ b₀ 1 = true) (hsz : Builtin.Range.rangeSize a₀ b₀ 1 = (n : Int)) (F : Fr h₀ env.locals s.heap m₀) (N : News h₀ env.locals s.heap news) (hj : J 0 news)
    (turn : ∀ i k t news₁ h tk I oI, i < n → k = a₀ + (i : Int) → (∀ p ∈ news₁, p.1 ≠ I) → J i news₁ → Fr h₀ env.locals h (fun y => if y = x then some (.int k t) else m₀ y) → News h₀ env.locals h ((I, oI) :: news₁) →
      wpAny (model prog w) A (execs body env) (TurnPost h₀ env.locals (fun m' nx => J (i + 1) nx ∧ ∀ z, z ≠ x → m' z = m₀ z) I oI { s with heap := h, toks := tk } Q) E { s with heap := h, toks := tk })
    (done : ∀ (u : Str → Option Value) news₁ h tk, J n news₁ → Fr h₀ env.locals h (fun y => if y = x then u y else m₀ y) → News h₀ env.locals h news₁ → Q .next { s with heap := h, toks := tk }) :
    wpAny (model prog w) A (pyIter (.ref r)) (fun it s₂ => LoopAtV prog w A h₀ env x body Q E it s₂) E s := by
  refine iter_rng n (fun i m nx => J i nx ∧ ∀ z, z ≠ x → m z = m₀ z) hh hr hsmall hsz F N ⟨hj, fun _ _ => rfl⟩ ?_ ?_
  · rintro i k t m₁ news₁ h tk I oI hi hk ho ⟨hJ, hm⟩ F₁ N₁
    have e : (fun y => if y = x then some (.int k t) else m₁ y) = fun y => if y = x then some (.int k t) else m₀ y := by
      funext y
      by_cases hy : y = x
      · simp [hy]
      · simp only [if_neg hy]; exact hm y hy
    rw [e] at F₁
    exact turn i k t news₁ h tk I oI hi hk ho hJ F₁ N₁
  · rintro m₁ news₁ h tk ⟨hJ, hm⟩ F₁ N₁
    have e : (fun y => if y = x then m₁ y else m₀ y) = m₁ := by
      funext y
      by_cases hy : y = x
      · simp [hy]
      · simp only [if_neg hy]; exact (hm y hy).symm
    exact done m₁ news₁ h tk hJ (by rw [e]; exact F₁) N₁
end
def Ret1 (Q : Flow → Shared → Prop) (f : Flow) (s₂ : Shared) : Prop := match f with
  | .ret r => Q (.ret r) s₂
  | .brk => Q .next s₂
  | _ => False
theorem iter_ret1 {prog : Program} {w : World} {A : Around} {E : Value → Shared → Prop} {s : Shared} {env : Env} {h₀ : Heap} {x : Str} {body : List Stmt} {Q : Flow → Shared → Prop} {l : Addr} {v : Value} {nn : Nat} {m₀ : Str → Option Value} {news : Led}
    (hh : A.handled = none) (hl : (l, listOf #[v] nn) ∈ news) (F : Fr h₀ env.locals s.heap m₀) (N : News h₀ env.locals s.heap news)
    (turn : ∀ h tk, Fr h₀ env.locals h (fun y => if y = x then some v else m₀ y) → News h₀ env.locals h news → wpAny (model prog w) A (execs body env) (Ret1 Q) E { s with heap := h, toks := tk }) :
    wpAny (model prog w) A (pyIter (.ref l)) (fun it s₂ => LoopAtV prog w A h₀ env x body Q E it s₂) E s := by
  refine kdl_iter (vs := [v]) (nn := nn) (fun i m nx => i = 0 ∧ m = m₀ ∧ nx = news) hh hl F N ⟨rfl, rfl, rfl⟩ ?_ ?_
  · rintro i v' m₁ news₁ h tk own hv _ _ ⟨rfl, rfl, rfl⟩ F₁ N₁
    obtain rfl : v = v' := by simpa using hv
    refine wpAny_mono (turn h tk F₁ fun p hp => N₁ p (List.mem_append_left _ hp)) (fun f s₂ p => ?_) fun _ _ e => e
    cases f with
    | ret r => exact p
    | brk => exact p
    | next => exact p.elim
    | cont => exact p.elim
  · rintro m₁ n₁ h tk ⟨h0, _⟩
    exact absurd h0 (by simp)
theorem ite_eqF {a b : Int} {A B : Prop} (h : a ≠ b) (hB : B) : if (a == b) = true then A else B := by rw [if_neg (by simpa using h)]; exact hB
theorem ite_eqT {a b : Int} {A B : Prop} (h : a = b) (hA : A) : if (a == b) = true then A else B := by rw [if_pos (by simpa using h)]; exact hA
theorem ite_neF {a b : Int} {A B : Prop} (h : a = b) (hB : B) : if (a != b) = true then A else B := by rw [if_neg (by simpa using h)]; exact hB
theorem item_last {prog : Program} {w : World} {A : Around} {E : Value → Shared → Prop} {s : Shared} {value slice : Expr} {l : Addr} {u : Tok} {v : Value} {Q : Value → Shared → Prop} (hl : s.heap.IsList l [v].toArray) (h : Q v s)
    (hs : subscripted slice false (.ref l) (.int (-1) u) = operate [.ref l, .int (-1) u] (getItem (.ref l) (.int (-1) u)) := by with_unfolding_all rfl) :
    wpAny (model prog w) A (subscriptTail value slice (.ref l) (.int (-1) u)) Q E s :=
  tail_any hl.typeIs slot_list_getitem.lookup (wpAny_getItem_list_neg hl (by decide) (by show -(1 : Int) ≤ -1; decide) (by decide) rfl h) hs
local macro_rules | `(tactic| walk_at "ite") => `(tactic| (k_here; first | ((with_reducible refine ite_eqF ?_ ?_); omega) | ((with_reducible refine ite_eqT ?_ ?_); omega) | ((with_reducible refine ite_neF ?_ ?_); omega)))
local macro_rules | `(tactic| walk_at "subscriptTail Subscript") => `(tactic| (k_here; (with_reducible show wpAny _ _ (subscriptTail _ _ (Value.ref _) (Value.int (-1) _)) _ _ _); k_dflt (refine' item_last ?k1 ?_; (case k1 => exact isl (by k_asm) (by k_mem))); k_whole))
local macro_rules | `(tactic| walk_at "Ret1") => `(tactic| (dsimp only [Ret1]))
section
local macro_rules | `(tactic| walk_at "pyIter ref") => `(tactic| walk_at "HOLD")
local macro_rules | `(tactic| walk_at "call ref") => `(tactic| walk_at "HOLD")
set_option maxHeartbeats 2000000 in
theorem c_ctx1 {w : World} {mean : ExcName → Option Value} {mg mb : Str → Option Value} {lks k0 k1 k2 k3 : Addr} {r0 r1 r2 row' : List Int} {H : Int → St → St} {D : Int} {dn cn : Nat} (hH : ∀ goal ∈ row', ∃ lj, 0 ≤ goal ∧ goal < 4 ∧ [Value.ref k0, .ref k1, .ref k2, .ref k3][goal.toNat]? = some (.ref lj) ∧ SubC w mean mg mb lks k0 k1 k2 k3 r0 r1 r2 lj (H goal) D dn cn ∧ FOk (H goal))
    {rest : Led} {sc b gd lk S row inf G tb act : Addr} {d at' n k g : Int} {vs : List Value} {oG : Obj} {c : Nat} {tn ta : Tok}
    (hall : AllIn w rest lks k0 k1 k2 k3 r0 r1 r2) (hs : SceneIn w rest sc b gd lks lk S d) (hd0 : 0 ≤ d) (hdD : d + 1 ≤ D) (hD6 : D ≤ 6) (hb : BufIn w rest b row vs) (h0 : 0 ≤ at') (h1 : at' < vs.length) (h2 : vs.length ≤ 100) (hx : vs[at'.toNat]? = some (.ref inf)) (hi : (inf, instObj 142 G) ∈ rest)
    (hS : ∀ p ∈ rest, p.1 ≠ S) (hG : ∀ p ∈ rest, p.1 ≠ G) (hSG : S ≠ G) (hD : InfD w oG g) (hgk : g = 10 + k) (hok : Ok (n, k)) (hd1 : d ≠ 0)
    (ht : TabIn w rest tb act) (hA : ActIn rest act row') :
    Con w mean mg mb 578 (dn + 30) (cn + 440) [.ref sc, .ref tb, .int at' ta, .ref 653] ((S, listOf #[.int n tn] c) :: (G, oG) :: rest)
      (fun kq => ∀ o' g' t tn', InfD w o' g' → g' = 10 + (acts H row' (n, k)).2 → kq (.int (at' + 1) t) ((S, listOf #[.int (acts H row' (n, k)).1 tn'] c) :: (G, o') :: rest)) := by
  obtain ⟨avs, an, ha, hacts⟩ := hA
  have hok' := hok
  obtain ⟨hok1, hok2, hok3⟩ := hok'
  dsimp only at hok1 hok2 hok3
  have hs2 := hs
  have hb2 := hb
  have hD2 := hD
  refine hb2.elim fun bd bc TB VB b1 b2 b3 => ?_
  refine hs2.elim fun sd TS s1 s2 => ?_
  obtain ⟨tg9, tm9, TI, VI, rfl⟩ := hD
  unfold Con
  have hfill : (PySem.Challenge.rw_pf0148_01, hd.heap_39) = (PySem.Challenge.rw_pf0148_01, hd.heap_39) := rfl
  intro dp un gd nm cs a ccd cl outer A₀ base h₀ L m s Q E B F X N T hk hdp hun hret
  revert hfill
  k_fill
  intro hfill; clear hfill
  have hMk := kstMark
  k_with_none
  refine wpAny_call ?_
  k_dflt ktr_enter
  (k_steps; (all_goals (try ((with_reducible refine unheld ?_); (first | (refine' con_use2 ?k1_160 ?k2_160 ?k3_160 ?k4_160 ?k5_160 ?kK_160 ?kd_160 ?ku_160 ?q1_160 ?q2_160 (c_actions ?e0_160 ?b1_160 ?s1_160 ?a4_160 ?a5_160 ?a6_160 ?b2_160 ?a7_160 ?a8_160 ?a9_160 ?a10_160 ?m1_160 ?n1_160 ?n2_160 ?a11_160 ?e12_160 ?a13_160 ?e14_160 ?f2_160 ?f3_160 ?f4_160 ?m5_160 ?b3_160) ?_; (case k1_160 => k_asm); (case k2_160 => k_asm); (case k3_160 => k_asm); (case k4_160 => k_asm); (case k5_160 => k_asm); (case kK_160 => first | exact rfl | assumption); (case e0_160 => assumption); (case e12_160 => assumption); (case e14_160 => assumption); (case q1_160 => (walk_at "PICK")); (case q2_160 => (walk_at "PICK")); (case f2_160 => k_mem); (case f3_160 => k_mem); (case f4_160 => k_mem); (case b1_160 => (walk_at "BUND")); (case s1_160 => walk_at "SCENE"); (case a4_160 => assumption); (case a5_160 => assumption); (case a6_160 => assumption); (case b2_160 => (walk_at "BUND")); (case a7_160 => assumption); (case a8_160 => assumption); (case a9_160 => assumption); (case a10_160 => assumption); (case m1_160 => k_mem); (case n1_160 => k_all); (case n2_160 => k_all); (case a11_160 => assumption); (case a13_160 => assumption); (case m5_160 => k_mem); (case b3_160 => (walk_at "BUND")); (case kd_160 => ktr_room); (case ku_160 => ktr_units); k_whole;  intro o9z g9z tn9z u9z w9z h9z tk9z F9z N9z; (try dsimp only); (try k_fold)) | (refine' con_use ?k1_161 ?k2_161 ?k3_161 ?k4_161 ?k5_161 ?kK_161 ?kd_161 ?ku_161 (c_hang _ _ _ _ _ _ _ _ _ _ _ ?b1_161 ?a1_161 ?a2_161 ?a3_161) ?_; (case k1_161 => k_asm); (case k2_161 => k_asm); (case k3_161 => k_asm); (case k4_161 => k_asm); (case k5_161 => k_asm); (case kK_161 => first | exact rfl | assumption); (case b1_161 => (walk_at "BUND")); (case a1_161 => assumption); (case a2_161 => assumption); (case a3_161 => assumption); (case kd_161 => ktr_room); (case ku_161 => ktr_units); k_whole;  intro  h9z tk9z F9z N9z; (try dsimp only); (try k_fold)) | (refine' con_use ?k1_162 ?k2_162 ?k3_162 ?k4_162 ?k5_162 ?kK_162 ?kd_162 ?ku_162 (c_match _ _ _ _ _ _ _ _ _ _ _ _ _ _ _ _ _ _ _ _ _ _ _ _ _ _ _ _ _ ?s1_162 ?b1_162 ?a1_162 ?a2_162 ?a3_162 ?a4_162 ?m1_162 ?m2_162 ?a5_162 ?b2_162 ?m3_162 ?m4_162 ?m5_162 ?m6_162 ?m7_162) ?_; (case k1_162 => k_asm); (case k2_162 => k_asm); (case k3_162 => k_asm); (case k4_162 => k_asm); (case k5_162 => k_asm); (case kK_162 => first | exact rfl | assumption); (case s1_162 => walk_at "SCENE"); (case b1_162 => (walk_at "BUND")); (case a1_162 => assumption); (case a2_162 => assumption); (case a3_162 => assumption); (case a4_162 => assumption); (case m1_162 => k_mem); (case m2_162 => k_mem); (case a5_162 => assumption); (case b2_162 => (walk_at "BUND")); (case m3_162 => k_mem); (case m4_162 => k_mem); (case m5_162 => k_mem); (case m6_162 => k_mem); (case m7_162 => k_mem); (case kd_162 => ktr_room); (case ku_162 => ktr_units); k_whole;  intro M9z P9z t1z t2z t3z x7z x8z h9z tk9z F9z N9z; (try dsimp only); (try k_fold)) | (refine' con_use ?k1_163 ?k2_163 ?k3_163 ?k4_163 ?k5_163 ?kK_163 ?kd_163 ?ku_163 (c_rules _ _ _ _ _ _ _ _ _ ?b1_163 ?l1_163 ?l2_163) ?_; (case k1_163 => k_asm); (case k2_163 => k_asm); (case k3_163 => k_asm); (case k4_163 => k_asm); (case k5_163 => k_asm); (case kK_163 => first | exact rfl | assumption); (case b1_163 => (walk_at "BUND")); (case l1_163 => omega); (case l2_163 => omega); (case kd_163 => ktr_room); (case ku_163 => ktr_units); k_whole;  intro R9z T9z B9z I9z A9z q9z no9z t9z tc9z hno9z x1z x2z x3z x4z x5z x6z h9z tk9z F9z N9z; (try dsimp only); (try k_fold)) | ((with_reducible show wpAny _ _ (pyIter (Value.ref _)) (fun it s₂ => LoopAtV _ _ _ _ _ _ _ _ _ it s₂) _ _); k_dflt (refine' iter_ret1 ?k1_164 ?k2_164 ?k3_164 ?k4_164 ?_; (case k1_164 => exact rfl); (case k4_164 => k_asm); (case k3_164 => k_asm); (case k2_164 => k_mem)); k_whole; intro h'z tk'z F'z N'z; (try dsimp only); (try k_fold)) | fin_once hold walk1 | fail); (try k_steps)))); (all_goals (try ((with_reducible refine unheld ?_); (first | (refine' con_use2 ?k1_165 ?k2_165 ?k3_165 ?k4_165 ?k5_165 ?kK_165 ?kd_165 ?ku_165 ?q1_165 ?q2_165 (c_actions ?e0_165 ?b1_165 ?s1_165 ?a4_165 ?a5_165 ?a6_165 ?b2_165 ?a7_165 ?a8_165 ?a9_165 ?a10_165 ?m1_165 ?n1_165 ?n2_165 ?a11_165 ?e12_165 ?a13_165 ?e14_165 ?f2_165 ?f3_165 ?f4_165 ?m5_165 ?b3_165) ?_; (case k1_165 => k_asm); (case k2_165 => k_asm); (case k3_165 => k_asm); (case k4_165 => k_asm); (case k5_165 => k_asm); (case kK_165 => first | exact rfl | assumption); (case e0_165 => assumption); (case e12_165 => assumption); (case e14_165 => assumption); (case q1_165 => (walk_at "PICK")); (case q2_165 => (walk_at "PICK")); (case f2_165 => k_mem); (case f3_165 => k_mem); (case f4_165 => k_mem); (case b1_165 => (walk_at "BUND")); (case s1_165 => walk_at "SCENE"); (case a4_165 => assumption); (case a5_165 => assumption); (case a6_165 => assumption); (case b2_165 => (walk_at "BUND")); (case a7_165 => assumption); (case a8_165 => assumption); (case a9_165 => assumption); (case a10_165 => assumption); (case m1_165 => k_mem); (case n1_165 => k_all); (case n2_165 => k_all); (case a11_165 => assumption); (case a13_165 => assumption); (case m5_165 => k_mem); (case b3_165 => (walk_at "BUND")); (case kd_165 => ktr_room); (case ku_165 => ktr_units); k_whole;  intro o9z g9z tn9z u9z w9z h9z tk9z F9z N9z; (try dsimp only); (try k_fold)) | (refine' con_use ?k1_166 ?k2_166 ?k3_166 ?k4_166 ?k5_166 ?kK_166 ?kd_166 ?ku_166 (c_hang _ _ _ _ _ _ _ _ _ _ _ ?b1_166 ?a1_166 ?a2_166 ?a3_166) ?_; (case k1_166 => k_asm); (case k2_166 => k_asm); (case k3_166 => k_asm); (case k4_166 => k_asm); (case k5_166 => k_asm); (case kK_166 => first | exact rfl | assumption); (case b1_166 => (walk_at "BUND")); (case a1_166 => assumption); (case a2_166 => assumption); (case a3_166 => assumption); (case kd_166 => ktr_room); (case ku_166 => ktr_units); k_whole;  intro  h9z tk9z F9z N9z; (try dsimp only); (try k_fold)) | (refine' con_use ?k1_167 ?k2_167 ?k3_167 ?k4_167 ?k5_167 ?kK_167 ?kd_167 ?ku_167 (c_match _ _ _ _ _ _ _ _ _ _ _ _ _ _ _ _ _ _ _ _ _ _ _ _ _ _ _ _ _ ?s1_167 ?b1_167 ?a1_167 ?a2_167 ?a3_167 ?a4_167 ?m1_167 ?m2_167 ?a5_167 ?b2_167 ?m3_167 ?m4_167 ?m5_167 ?m6_167 ?m7_167) ?_; (case k1_167 => k_asm); (case k2_167 => k_asm); (case k3_167 => k_asm); (case k4_167 => k_asm); (case k5_167 => k_asm); (case kK_167 => first | exact rfl | assumption); (case s1_167 => walk_at "SCENE"); (case b1_167 => (walk_at "BUND")); (case a1_167 => assumption); (case a2_167 => assumption); (case a3_167 => assumption); (case a4_167 => assumption); (case m1_167 => k_mem); (case m2_167 => k_mem); (case a5_167 => assumption); (case b2_167 => (walk_at "BUND")); (case m3_167 => k_mem); (case m4_167 => k_mem); (case m5_167 => k_mem); (case m6_167 => k_mem); (case m7_167 => k_mem); (case kd_167 => ktr_room); (case ku_167 => ktr_units); k_whole;  intro M9z P9z t1z t2z t3z x7z x8z h9z tk9z F9z N9z; (try dsimp only); (try k_fold)) | (refine' con_use ?k1_168 ?k2_168 ?k3_168 ?k4_168 ?k5_168 ?kK_168 ?kd_168 ?ku_168 (c_rules _ _ _ _ _ _ _ _ _ ?b1_168 ?l1_168 ?l2_168) ?_; (case k1_168 => k_asm); (case k2_168 => k_asm); (case k3_168 => k_asm); (case k4_168 => k_asm); (case k5_168 => k_asm); (case kK_168 => first | exact rfl | assumption); (case b1_168 => (walk_at "BUND")); (case l1_168 => omega); (case l2_168 => omega); (case kd_168 => ktr_room); (case ku_168 => ktr_units); k_whole;  intro R9z T9z B9z I9z A9z q9z no9z t9z tc9z hno9z x1z x2z x3z x4z x5z x6z h9z tk9z F9z N9z; (try dsimp only); (try k_fold)) | ((with_reducible show wpAny _ _ (pyIter (Value.ref _)) (fun it s₂ => LoopAtV _ _ _ _ _ _ _ _ _ it s₂) _ _); k_dflt (refine' iter_ret1 ?k1_169 ?k2_169 ?k3_169 ?k4_169 ?_; (case k1_169 => exact rfl); (case k4_169 => k_asm); (case k3_169 => k_asm); (case k2_169 => k_mem)); k_whole; intro h'z tk'z F'z N'z; (try dsimp only); (try k_fold)) | fin_once hold walk1 | fail); (try k_steps)))); (all_goals (try ((with_reducible refine unheld ?_); (first | (refine' con_use2 ?k1_170 ?k2_170 ?k3_170 ?k4_170 ?k5_170 ?kK_170 ?kd_170 ?ku_170 ?q1_170 ?q2_170 (c_actions ?e0_170 ?b1_170 ?s1_170 ?a4_170 ?a5_170 ?a6_170 ?b2_170 ?a7_170 ?a8_170 ?a9_170 ?a10_170 ?m1_170 ?n1_170 ?n2_170 ?a11_170 ?e12_170 ?a13_170 ?e14_170 ?f2_170 ?f3_170 ?f4_170 ?m5_170 ?b3_170) ?_; (case k1_170 => k_asm); (case k2_170 => k_asm); (case k3_170 => k_asm); (case k4_170 => k_asm); (case k5_170 => k_asm); (case kK_170 => first | exact rfl | assumption); (case e0_170 => assumption); (case e12_170 => assumption); (case e14_170 => assumption); (case q1_170 => (walk_at "PICK")); (case q2_170 => (walk_at "PICK")); (case f2_170 => k_mem); (case f3_170 => k_mem); (case f4_170 => k_mem); (case b1_170 => (walk_at "BUND")); (case s1_170 => walk_at "SCENE"); (case a4_170 => assumption); (case a5_170 => assumption); (case a6_170 => assumption); (case b2_170 => (walk_at "BUND")); (case a7_170 => assumption); (case a8_170 => assumption); (case a9_170 => assumption); (case a10_170 => assumption); (case m1_170 => k_mem); (case n1_170 => k_all); (case n2_170 => k_all); (case a11_170 => assumption); (case a13_170 => assumption); (case m5_170 => k_mem); (case b3_170 => (walk_at "BUND")); (case kd_170 => ktr_room); (case ku_170 => ktr_units); k_whole;  intro o9z g9z tn9z u9z w9z h9z tk9z F9z N9z; (try dsimp only); (try k_fold)) | (refine' con_use ?k1_171 ?k2_171 ?k3_171 ?k4_171 ?k5_171 ?kK_171 ?kd_171 ?ku_171 (c_hang _ _ _ _ _ _ _ _ _ _ _ ?b1_171 ?a1_171 ?a2_171 ?a3_171) ?_; (case k1_171 => k_asm); (case k2_171 => k_asm); (case k3_171 => k_asm); (case k4_171 => k_asm); (case k5_171 => k_asm); (case kK_171 => first | exact rfl | assumption); (case b1_171 => (walk_at "BUND")); (case a1_171 => assumption); (case a2_171 => assumption); (case a3_171 => assumption); (case kd_171 => ktr_room); (case ku_171 => ktr_units); k_whole;  intro  h9z tk9z F9z N9z; (try dsimp only); (try k_fold)) | (refine' con_use ?k1_172 ?k2_172 ?k3_172 ?k4_172 ?k5_172 ?kK_172 ?kd_172 ?ku_172 (c_match _ _ _ _ _ _ _ _ _ _ _ _ _ _ _ _ _ _ _ _ _ _ _ _ _ _ _ _ _ ?s1_172 ?b1_172 ?a1_172 ?a2_172 ?a3_172 ?a4_172 ?m1_172 ?m2_172 ?a5_172 ?b2_172 ?m3_172 ?m4_172 ?m5_172 ?m6_172 ?m7_172) ?_; (case k1_172 => k_asm); (case k2_172 => k_asm); (case k3_172 => k_asm); (case k4_172 => k_asm); (case k5_172 => k_asm); (case kK_172 => first | exact rfl | assumption); (case s1_172 => walk_at "SCENE"); (case b1_172 => (walk_at "BUND")); (case a1_172 => assumption); (case a2_172 => assumption); (case a3_172 => assumption); (case a4_172 => assumption); (case m1_172 => k_mem); (case m2_172 => k_mem); (case a5_172 => assumption); (case b2_172 => (walk_at "BUND")); (case m3_172 => k_mem); (case m4_172 => k_mem); (case m5_172 => k_mem); (case m6_172 => k_mem); (case m7_172 => k_mem); (case kd_172 => ktr_room); (case ku_172 => ktr_units); k_whole;  intro M9z P9z t1z t2z t3z x7z x8z h9z tk9z F9z N9z; (try dsimp only); (try k_fold)) | (refine' con_use ?k1_173 ?k2_173 ?k3_173 ?k4_173 ?k5_173 ?kK_173 ?kd_173 ?ku_173 (c_rules _ _ _ _ _ _ _ _ _ ?b1_173 ?l1_173 ?l2_173) ?_; (case k1_173 => k_asm); (case k2_173 => k_asm); (case k3_173 => k_asm); (case k4_173 => k_asm); (case k5_173 => k_asm); (case kK_173 => first | exact rfl | assumption); (case b1_173 => (walk_at "BUND")); (case l1_173 => omega); (case l2_173 => omega); (case kd_173 => ktr_room); (case ku_173 => ktr_units); k_whole;  intro R9z T9z B9z I9z A9z q9z no9z t9z tc9z hno9z x1z x2z x3z x4z x5z x6z h9z tk9z F9z N9z; (try dsimp only); (try k_fold)) | ((with_reducible show wpAny _ _ (pyIter (Value.ref _)) (fun it s₂ => LoopAtV _ _ _ _ _ _ _ _ _ it s₂) _ _); k_dflt (refine' iter_ret1 ?k1_174 ?k2_174 ?k3_174 ?k4_174 ?_; (case k1_174 => exact rfl); (case k4_174 => k_asm); (case k3_174 => k_asm); (case k2_174 => k_mem)); k_whole; intro h'z tk'z F'z N'z; (try dsimp only); (try k_fold)) | fin_once hold walk1 | fail); (try k_steps)))); (all_goals (try ((with_reducible refine unheld ?_); (first | (refine' con_use2 ?k1_175 ?k2_175 ?k3_175 ?k4_175 ?k5_175 ?kK_175 ?kd_175 ?ku_175 ?q1_175 ?q2_175 (c_actions ?e0_175 ?b1_175 ?s1_175 ?a4_175 ?a5_175 ?a6_175 ?b2_175 ?a7_175 ?a8_175 ?a9_175 ?a10_175 ?m1_175 ?n1_175 ?n2_175 ?a11_175 ?e12_175 ?a13_175 ?e14_175 ?f2_175 ?f3_175 ?f4_175 ?m5_175 ?b3_175) ?_; (case k1_175 => k_asm); (case k2_175 => k_asm); (case k3_175 => k_asm); (case k4_175 => k_asm); (case k5_175 => k_asm); (case kK_175 => first | exact rfl | assumption); (case e0_175 => assumption); (case e12_175 => assumption); (case e14_175 => assumption); (case q1_175 => (walk_at "PICK")); (case q2_175 => (walk_at "PICK")); (case f2_175 => k_mem); (case f3_175 => k_mem); (case f4_175 => k_mem); (case b1_175 => (walk_at "BUND")); (case s1_175 => walk_at "SCENE"); (case a4_175 => assumption); (case a5_175 => assumption); (case a6_175 => assumption); (case b2_175 => (walk_at "BUND")); (case a7_175 => assumption); (case a8_175 => assumption); (case a9_175 => assumption); (case a10_175 => assumption); (case m1_175 => k_mem); (case n1_175 => k_all); (case n2_175 => k_all); (case a11_175 => assumption); (case a13_175 => assumption); (case m5_175 => k_mem); (case b3_175 => (walk_at "BUND")); (case kd_175 => ktr_room); (case ku_175 => ktr_units); k_whole;  intro o9z g9z tn9z u9z w9z h9z tk9z F9z N9z; (try dsimp only); (try k_fold)) | (refine' con_use ?k1_176 ?k2_176 ?k3_176 ?k4_176 ?k5_176 ?kK_176 ?kd_176 ?ku_176 (c_hang _ _ _ _ _ _ _ _ _ _ _ ?b1_176 ?a1_176 ?a2_176 ?a3_176) ?_; (case k1_176 => k_asm); (case k2_176 => k_asm); (case k3_176 => k_asm); (case k4_176 => k_asm); (case k5_176 => k_asm); (case kK_176 => first | exact rfl | assumption); (case b1_176 => (walk_at "BUND")); (case a1_176 => assumption); (case a2_176 => assumption); (case a3_176 => assumption); (case kd_176 => ktr_room); (case ku_176 => ktr_units); k_whole;  intro  h9z tk9z F9z N9z; (try dsimp only); (try k_fold)) | (refine' con_use ?k1_177 ?k2_177 ?k3_177 ?k4_177 ?k5_177 ?kK_177 ?kd_177 ?ku_177 (c_match _ _ _ _ _ _ _ _ _ _ _ _ _ _ _ _ _ _ _ _ _ _ _ _ _ _ _ _ _ ?s1_177 ?b1_177 ?a1_177 ?a2_177 ?a3_177 ?a4_177 ?m1_177 ?m2_177 ?a5_177 ?b2_177 ?m3_177 ?m4_177 ?m5_177 ?m6_177 ?m7_177) ?_; (case k1_177 => k_asm); (case k2_177 => k_asm); (case k3_177 => k_asm); (case k4_177 => k_asm); (case k5_177 => k_asm); (case kK_177 => first | exact rfl | assumption); (case s1_177 => walk_at "SCENE"); (case b1_177 => (walk_at "BUND")); (case a1_177 => assumption); (case a2_177 => assumption); (case a3_177 => assumption); (case a4_177 => assumption); (case m1_177 => k_mem); (case m2_177 => k_mem); (case a5_177 => assumption); (case b2_177 => (walk_at "BUND")); (case m3_177 => k_mem); (case m4_177 => k_mem); (case m5_177 => k_mem); (case m6_177 => k_mem); (case m7_177 => k_mem); (case kd_177 => ktr_room); (case ku_177 => ktr_units); k_whole;  intro M9z P9z t1z t2z t3z x7z x8z h9z tk9z F9z N9z; (try dsimp only); (try k_fold)) | (refine' con_use ?k1_178 ?k2_178 ?k3_178 ?k4_178 ?k5_178 ?kK_178 ?kd_178 ?ku_178 (c_rules _ _ _ _ _ _ _ _ _ ?b1_178 ?l1_178 ?l2_178) ?_; (case k1_178 => k_asm); (case k2_178 => k_asm); (case k3_178 => k_asm); (case k4_178 => k_asm); (case k5_178 => k_asm); (case kK_178 => first | exact rfl | assumption); (case b1_178 => (walk_at "BUND")); (case l1_178 => omega); (case l2_178 => omega); (case kd_178 => ktr_room); (case ku_178 => ktr_units); k_whole;  intro R9z T9z B9z I9z A9z q9z no9z t9z tc9z hno9z x1z x2z x3z x4z x5z x6z h9z tk9z F9z N9z; (try dsimp only); (try k_fold)) | ((with_reducible show wpAny _ _ (pyIter (Value.ref _)) (fun it s₂ => LoopAtV _ _ _ _ _ _ _ _ _ it s₂) _ _); k_dflt (refine' iter_ret1 ?k1_179 ?k2_179 ?k3_179 ?k4_179 ?_; (case k1_179 => exact rfl); (case k4_179 => k_asm); (case k3_179 => k_asm); (case k2_179 => k_mem)); k_whole; intro h'z tk'z F'z N'z; (try dsimp only); (try k_fold)) | fin_once hold walk1 | fail); (try k_steps)))); (all_goals (try ((with_reducible refine unheld ?_); (first | (refine' con_use2 ?k1_180 ?k2_180 ?k3_180 ?k4_180 ?k5_180 ?kK_180 ?kd_180 ?ku_180 ?q1_180 ?q2_180 (c_actions ?e0_180 ?b1_180 ?s1_180 ?a4_180 ?a5_180 ?a6_180 ?b2_180 ?a7_180 ?a8_180 ?a9_180 ?a10_180 ?m1_180 ?n1_180 ?n2_180 ?a11_180 ?e12_180 ?a13_180 ?e14_180 ?f2_180 ?f3_180 ?f4_180 ?m5_180 ?b3_180) ?_; (case k1_180 => k_asm); (case k2_180 => k_asm); (case k3_180 => k_asm); (case k4_180 => k_asm); (case k5_180 => k_asm); (case kK_180 => first | exact rfl | assumption); (case e0_180 => assumption); (case e12_180 => assumption); (case e14_180 => assumption); (case q1_180 => (walk_at "PICK")); (case q2_180 => (walk_at "PICK")); (case f2_180 => k_mem); (case f3_180 => k_mem); (case f4_180 => k_mem); (case b1_180 => (walk_at "BUND")); (case s1_180 => walk_at "SCENE"); (case a4_180 => assumption); (case a5_180 => assumption); (case a6_180 => assumption); (case b2_180 => (walk_at "BUND")); (case a7_180 => assumption); (case a8_180 => assumption); (case a9_180 => assumption); (case a10_180 => assumption); (case m1_180 => k_mem); (case n1_180 => k_all); (case n2_180 => k_all); (case a11_180 => assumption); (case a13_180 => assumption); (case m5_180 => k_mem); (case b3_180 => (walk_at "BUND")); (case kd_180 => ktr_room); (case ku_180 => ktr_units); k_whole;  intro o9z g9z tn9z u9z w9z h9z tk9z F9z N9z; (try dsimp only); (try k_fold)) | (refine' con_use ?k1_181 ?k2_181 ?k3_181 ?k4_181 ?k5_181 ?kK_181 ?kd_181 ?ku_181 (c_hang _ _ _ _ _ _ _ _ _ _ _ ?b1_181 ?a1_181 ?a2_181 ?a3_181) ?_; (case k1_181 => k_asm); (case k2_181 => k_asm); (case k3_181 => k_asm); (case k4_181 => k_asm); (case k5_181 => k_asm); (case kK_181 => first | exact rfl | assumption); (case b1_181 => (walk_at "BUND")); (case a1_181 => assumption); (case a2_181 => assumption); (case a3_181 => assumption); (case kd_181 => ktr_room); (case ku_181 => ktr_units); k_whole;  intro  h9z tk9z F9z N9z; (try dsimp only); (try k_fold)) | (refine' con_use ?k1_182 ?k2_182 ?k3_182 ?k4_182 ?k5_182 ?kK_182 ?kd_182 ?ku_182 (c_match _ _ _ _ _ _ _ _ _ _ _ _ _ _ _ _ _ _ _ _ _ _ _ _ _ _ _ _ _ ?s1_182 ?b1_182 ?a1_182 ?a2_182 ?a3_182 ?a4_182 ?m1_182 ?m2_182 ?a5_182 ?b2_182 ?m3_182 ?m4_182 ?m5_182 ?m6_182 ?m7_182) ?_; (case k1_182 => k_asm); (case k2_182 => k_asm); (case k3_182 => k_asm); (case k4_182 => k_asm); (case k5_182 => k_asm); (case kK_182 => first | exact rfl | assumption); (case s1_182 => walk_at "SCENE"); (case b1_182 => (walk_at "BUND")); (case a1_182 => assumption); (case a2_182 => assumption); (case a3_182 => assumption); (case a4_182 => assumption); (case m1_182 => k_mem); (case m2_182 => k_mem); (case a5_182 => assumption); (case b2_182 => (walk_at "BUND")); (case m3_182 => k_mem); (case m4_182 => k_mem); (case m5_182 => k_mem); (case m6_182 => k_mem); (case m7_182 => k_mem); (case kd_182 => ktr_room); (case ku_182 => ktr_units); k_whole;  intro M9z P9z t1z t2z t3z x7z x8z h9z tk9z F9z N9z; (try dsimp only); (try k_fold)) | (refine' con_use ?k1_183 ?k2_183 ?k3_183 ?k4_183 ?k5_183 ?kK_183 ?kd_183 ?ku_183 (c_rules _ _ _ _ _ _ _ _ _ ?b1_183 ?l1_183 ?l2_183) ?_; (case k1_183 => k_asm); (case k2_183 => k_asm); (case k3_183 => k_asm); (case k4_183 => k_asm); (case k5_183 => k_asm); (case kK_183 => first | exact rfl | assumption); (case b1_183 => (walk_at "BUND")); (case l1_183 => omega); (case l2_183 => omega); (case kd_183 => ktr_room); (case ku_183 => ktr_units); k_whole;  intro R9z T9z B9z I9z A9z q9z no9z t9z tc9z hno9z x1z x2z x3z x4z x5z x6z h9z tk9z F9z N9z; (try dsimp only); (try k_fold)) | ((with_reducible show wpAny _ _ (pyIter (Value.ref _)) (fun it s₂ => LoopAtV _ _ _ _ _ _ _ _ _ it s₂) _ _); k_dflt (refine' iter_ret1 ?k1_184 ?k2_184 ?k3_184 ?k4_184 ?_; (case k1_184 => exact rfl); (case k4_184 => k_asm); (case k3_184 => k_asm); (case k2_184 => k_mem)); k_whole; intro h'z tk'z F'z N'z; (try dsimp only); (try k_fold)) | fin_once hold walk1 | fail); (try k_steps)))); (all_goals (try ((with_reducible refine unheld ?_); (first | (refine' con_use2 ?k1_185 ?k2_185 ?k3_185 ?k4_185 ?k5_185 ?kK_185 ?kd_185 ?ku_185 ?q1_185 ?q2_185 (c_actions ?e0_185 ?b1_185 ?s1_185 ?a4_185 ?a5_185 ?a6_185 ?b2_185 ?a7_185 ?a8_185 ?a9_185 ?a10_185 ?m1_185 ?n1_185 ?n2_185 ?a11_185 ?e12_185 ?a13_185 ?e14_185 ?f2_185 ?f3_185 ?f4_185 ?m5_185 ?b3_185) ?_; (case k1_185 => k_asm); (case k2_185 => k_asm); (case k3_185 => k_asm); (case k4_185 => k_asm); (case k5_185 => k_asm); (case kK_185 => first | exact rfl | assumption); (case e0_185 => assumption); (case e12_185 => assumption); (case e14_185 => assumption); (case q1_185 => (walk_at "PICK")); (case q2_185 => (walk_at "PICK")); (case f2_185 => k_mem); (case f3_185 => k_mem); (case f4_185 => k_mem); (case b1_185 => (walk_at "BUND")); (case s1_185 => walk_at "SCENE"); (case a4_185 => assumption); (case a5_185 => assumption); (case a6_185 => assumption); (case b2_185 => (walk_at "BUND")); (case a7_185 => assumption); (case a8_185 => assumption); (case a9_185 => assumption); (case a10_185 => assumption); (case m1_185 => k_mem); (case n1_185 => k_all); (case n2_185 => k_all); (case a11_185 => assumption); (case a13_185 => assumption); (case m5_185 => k_mem); (case b3_185 => (walk_at "BUND")); (case kd_185 => ktr_room); (case ku_185 => ktr_units); k_whole;  intro o9z g9z tn9z u9z w9z h9z tk9z F9z N9z; (try dsimp only); (try k_fold)) | (refine' con_use ?k1_186 ?k2_186 ?k3_186 ?k4_186 ?k5_186 ?kK_186 ?kd_186 ?ku_186 (c_hang _ _ _ _ _ _ _ _ _ _ _ ?b1_186 ?a1_186 ?a2_186 ?a3_186) ?_; (case k1_186 => k_asm); (case k2_186 => k_asm); (case k3_186 => k_asm); (case k4_186 => k_asm); (case k5_186 => k_asm); (case kK_186 => first | exact rfl | assumption); (case b1_186 => (walk_at "BUND")); (case a1_186 => assumption); (case a2_186 => assumption); (case a3_186 => assumption); (case kd_186 => ktr_room); (case ku_186 => ktr_units); k_whole;  intro  h9z tk9z F9z N9z; (try dsimp only); (try k_fold)) | (refine' con_use ?k1_187 ?k2_187 ?k3_187 ?k4_187 ?k5_187 ?kK_187 ?kd_187 ?ku_187 (c_match _ _ _ _ _ _ _ _ _ _ _ _ _ _ _ _ _ _ _ _ _ _ _ _ _ _ _ _ _ ?s1_187 ?b1_187 ?a1_187 ?a2_187 ?a3_187 ?a4_187 ?m1_187 ?m2_187 ?a5_187 ?b2_187 ?m3_187 ?m4_187 ?m5_187 ?m6_187 ?m7_187) ?_; (case k1_187 => k_asm); (case k2_187 => k_asm); (case k3_187 => k_asm); (case k4_187 => k_asm); (case k5_187 => k_asm); (case kK_187 => first | exact rfl | assumption); (case s1_187 => walk_at "SCENE"); (case b1_187 => (walk_at "BUND")); (case a1_187 => assumption); (case a2_187 => assumption); (case a3_187 => assumption); (case a4_187 => assumption); (case m1_187 => k_mem); (case m2_187 => k_mem); (case a5_187 => assumption); (case b2_187 => (walk_at "BUND")); (case m3_187 => k_mem); (case m4_187 => k_mem); (case m5_187 => k_mem); (case m6_187 => k_mem); (case m7_187 => k_mem); (case kd_187 => ktr_room); (case ku_187 => ktr_units); k_whole;  intro M9z P9z t1z t2z t3z x7z x8z h9z tk9z F9z N9z; (try dsimp only); (try k_fold)) | (refine' con_use ?k1_188 ?k2_188 ?k3_188 ?k4_188 ?k5_188 ?kK_188 ?kd_188 ?ku_188 (c_rules _ _ _ _ _ _ _ _ _ ?b1_188 ?l1_188 ?l2_188) ?_; (case k1_188 => k_asm); (case k2_188 => k_asm); (case k3_188 => k_asm); (case k4_188 => k_asm); (case k5_188 => k_asm); (case kK_188 => first | exact rfl | assumption); (case b1_188 => (walk_at "BUND")); (case l1_188 => omega); (case l2_188 => omega); (case kd_188 => ktr_room); (case ku_188 => ktr_units); k_whole;  intro R9z T9z B9z I9z A9z q9z no9z t9z tc9z hno9z x1z x2z x3z x4z x5z x6z h9z tk9z F9z N9z; (try dsimp only); (try k_fold)) | ((with_reducible show wpAny _ _ (pyIter (Value.ref _)) (fun it s₂ => LoopAtV _ _ _ _ _ _ _ _ _ it s₂) _ _); k_dflt (refine' iter_ret1 ?k1_189 ?k2_189 ?k3_189 ?k4_189 ?_; (case k1_189 => exact rfl); (case k4_189 => k_asm); (case k3_189 => k_asm); (case k2_189 => k_mem)); k_whole; intro h'z tk'z F'z N'z; (try dsimp only); (try k_fold)) | fin_once hold walk1 | fail); (try k_steps)))); (all_goals (try ((with_reducible refine unheld ?_); (first | (refine' con_use2 ?k1_190 ?k2_190 ?k3_190 ?k4_190 ?k5_190 ?kK_190 ?kd_190 ?ku_190 ?q1_190 ?q2_190 (c_actions ?e0_190 ?b1_190 ?s1_190 ?a4_190 ?a5_190 ?a6_190 ?b2_190 ?a7_190 ?a8_190 ?a9_190 ?a10_190 ?m1_190 ?n1_190 ?n2_190 ?a11_190 ?e12_190 ?a13_190 ?e14_190 ?f2_190 ?f3_190 ?f4_190 ?m5_190 ?b3_190) ?_; (case k1_190 => k_asm); (case k2_190 => k_asm); (case k3_190 => k_asm); (case k4_190 => k_asm); (case k5_190 => k_asm); (case kK_190 => first | exact rfl | assumption); (case e0_190 => assumption); (case e12_190 => assumption); (case e14_190 => assumption); (case q1_190 => (walk_at "PICK")); (case q2_190 => (walk_at "PICK")); (case f2_190 => k_mem); (case f3_190 => k_mem); (case f4_190 => k_mem); (case b1_190 => (walk_at "BUND")); (case s1_190 => walk_at "SCENE"); (case a4_190 => assumption); (case a5_190 => assumption); (case a6_190 => assumption); (case b2_190 => (walk_at "BUND")); (case a7_190 => assumption); (case a8_190 => assumption); (case a9_190 => assumption); (case a10_190 => assumption); (case m1_190 => k_mem); (case n1_190 => k_all); (case n2_190 => k_all); (case a11_190 => assumption); (case a13_190 => assumption); (case m5_190 => k_mem); (case b3_190 => (walk_at "BUND")); (case kd_190 => ktr_room); (case ku_190 => ktr_units); k_whole;  intro o9z g9z tn9z u9z w9z h9z tk9z F9z N9z; (try dsimp only); (try k_fold)) | (refine' con_use ?k1_191 ?k2_191 ?k3_191 ?k4_191 ?k5_191 ?kK_191 ?kd_191 ?ku_191 (c_hang _ _ _ _ _ _ _ _ _ _ _ ?b1_191 ?a1_191 ?a2_191 ?a3_191) ?_; (case k1_191 => k_asm); (case k2_191 => k_asm); (case k3_191 => k_asm); (case k4_191 => k_asm); (case k5_191 => k_asm); (case kK_191 => first | exact rfl | assumption); (case b1_191 => (walk_at "BUND")); (case a1_191 => assumption); (case a2_191 => assumption); (case a3_191 => assumption); (case kd_191 => ktr_room); (case ku_191 => ktr_units); k_whole;  intro  h9z tk9z F9z N9z; (try dsimp only); (try k_fold)) | (refine' con_use ?k1_192 ?k2_192 ?k3_192 ?k4_192 ?k5_192 ?kK_192 ?kd_192 ?ku_192 (c_match _ _ _ _ _ _ _ _ _ _ _ _ _ _ _ _ _ _ _ _ _ _ _ _ _ _ _ _ _ ?s1_192 ?b1_192 ?a1_192 ?a2_192 ?a3_192 ?a4_192 ?m1_192 ?m2_192 ?a5_192 ?b2_192 ?m3_192 ?m4_192 ?m5_192 ?m6_192 ?m7_192) ?_; (case k1_192 => k_asm); (case k2_192 => k_asm); (case k3_192 => k_asm); (case k4_192 => k_asm); (case k5_192 => k_asm); (case kK_192 => first | exact rfl | assumption); (case s1_192 => walk_at "SCENE"); (case b1_192 => (walk_at "BUND")); (case a1_192 => assumption); (case a2_192 => assumption); (case a3_192 => assumption); (case a4_192 => assumption); (case m1_192 => k_mem); (case m2_192 => k_mem); (case a5_192 => assumption); (case b2_192 => (walk_at "BUND")); (case m3_192 => k_mem); (case m4_192 => k_mem); (case m5_192 => k_mem); (case m6_192 => k_mem); (case m7_192 => k_mem); (case kd_192 => ktr_room); (case ku_192 => ktr_units); k_whole;  intro M9z P9z t1z t2z t3z x7z x8z h9z tk9z F9z N9z; (try dsimp only); (try k_fold)) | (refine' con_use ?k1_193 ?k2_193 ?k3_193 ?k4_193 ?k5_193 ?kK_193 ?kd_193 ?ku_193 (c_rules _ _ _ _ _ _ _ _ _ ?b1_193 ?l1_193 ?l2_193) ?_; (case k1_193 => k_asm); (case k2_193 => k_asm); (case k3_193 => k_asm); (case k4_193 => k_asm); (case k5_193 => k_asm); (case kK_193 => first | exact rfl | assumption); (case b1_193 => (walk_at "BUND")); (case l1_193 => omega); (case l2_193 => omega); (case kd_193 => ktr_room); (case ku_193 => ktr_units); k_whole;  intro R9z T9z B9z I9z A9z q9z no9z t9z tc9z hno9z x1z x2z x3z x4z x5z x6z h9z tk9z F9z N9z; (try dsimp only); (try k_fold)) | ((with_reducible show wpAny _ _ (pyIter (Value.ref _)) (fun it s₂ => LoopAtV _ _ _ _ _ _ _ _ _ it s₂) _ _); k_dflt (refine' iter_ret1 ?k1_194 ?k2_194 ?k3_194 ?k4_194 ?_; (case k1_194 => exact rfl); (case k4_194 => k_asm); (case k3_194 => k_asm); (case k2_194 => k_mem)); k_whole; intro h'z tk'z F'z N'z; (try dsimp only); (try k_fold)) | fin_once hold walk1 | fail); (try k_steps)))))
  refine' hret _ _ _ _ ?zi ?ze _ _ (by k_asm) (cb_drop (by assumption) ?zd)
  case zd => walk_at "SUB"
  case zi => assumption
  case ze => assumption
end
section
local macro_rules | `(tactic| walk_at "pyIter ref") => `(tactic| walk_at "HOLD")
local macro_rules | `(tactic| walk_at "call ref") => `(tactic| walk_at "HOLD")
set_option maxHeartbeats 2000000 in
theorem c_ctx0 {w : World} {mean : ExcName → Option Value} {mg mb : Str → Option Value} {lks k0 k1 k2 k3 : Addr} {r0 r1 r2 row' : List Int} {H : Int → St → St} {D : Int} {dn cn : Nat} (hH : ∀ goal ∈ row', ∃ lj, 0 ≤ goal ∧ goal < 4 ∧ [Value.ref k0, .ref k1, .ref k2, .ref k3][goal.toNat]? = some (.ref lj) ∧ SubC w mean mg mb lks k0 k1 k2 k3 r0 r1 r2 lj (H goal) D dn cn ∧ FOk (H goal))
    {rest : Led} {sc b gd lk S row inf G tb act : Addr} {d at' n k g : Int} {vs : List Value} {oG : Obj} {c : Nat} {tn ta : Tok}
    (hall : AllIn w rest lks k0 k1 k2 k3 r0 r1 r2) (hs : SceneIn w rest sc b gd lks lk S d) (hd0 : 0 ≤ d) (hdD : d + 1 ≤ D) (hD6 : D ≤ 6) (hb : BufIn w rest b row vs) (h0 : 0 ≤ at') (h1 : at' < vs.length) (h2 : vs.length ≤ 100) (hx : vs[at'.toNat]? = some (.ref inf)) (hi : (inf, instObj 142 G) ∈ rest)
    (hS : ∀ p ∈ rest, p.1 ≠ S) (hG : ∀ p ∈ rest, p.1 ≠ G) (hSG : S ≠ G) (hD : InfD w oG g) (hgk : g = 10 + k) (hok : Ok (0, k)) (hd1 : d = 0)
    (ht : TabIn w rest tb act) (hA : ActIn rest act row') :
    Con w mean mg mb 578 (dn + 30) (cn + 440) [.ref sc, .ref tb, .int at' ta, .ref 653] ((S, listOf #[.int n tn] c) :: (G, oG) :: rest)
      (fun kq => ∀ o' g' t tn', InfD w o' g' → g' = 10 + (acts H row' (0, k)).2 → kq (.int (at' + 1) t) ((S, listOf #[.int (acts H row' (0, k)).1 tn'] c) :: (G, o') :: rest)) := by
  obtain ⟨avs, an, ha, hacts⟩ := hA
  have hok' := hok
  obtain ⟨hok1, hok2, hok3⟩ := hok'
  dsimp only at hok1 hok2 hok3
  have hs2 := hs
  have hb2 := hb
  have hD2 := hD
  refine hb2.elim fun bd bc TB VB b1 b2 b3 => ?_
  refine hs2.elim fun sd TS s1 s2 => ?_
  obtain ⟨tg9, tm9, TI, VI, rfl⟩ := hD
  unfold Con
  have hfill : (PySem.Challenge.rw_pf0148_01, hd.heap_39) = (PySem.Challenge.rw_pf0148_01, hd.heap_39) := rfl
  intro dp un gd nm cs a ccd cl outer A₀ base h₀ L m s Q E B F X N T hk hdp hun hret
  revert hfill
  k_fill
  intro hfill; clear hfill
  have hMk := kstMark
  k_with_none
  refine wpAny_call ?_
  k_dflt ktr_enter
  (k_steps; (all_goals (try ((with_reducible refine unheld ?_); (first | (refine' con_use2 ?k1_195 ?k2_195 ?k3_195 ?k4_195 ?k5_195 ?kK_195 ?kd_195 ?ku_195 ?q1_195 ?q2_195 (c_actions ?e0_195 ?b1_195 ?s1_195 ?a4_195 ?a5_195 ?a6_195 ?b2_195 ?a7_195 ?a8_195 ?a9_195 ?a10_195 ?m1_195 ?n1_195 ?n2_195 ?a11_195 ?e12_195 ?a13_195 ?e14_195 ?f2_195 ?f3_195 ?f4_195 ?m5_195 ?b3_195) ?_; (case k1_195 => k_asm); (case k2_195 => k_asm); (case k3_195 => k_asm); (case k4_195 => k_asm); (case k5_195 => k_asm); (case kK_195 => first | exact rfl | assumption); (case e0_195 => assumption); (case e12_195 => assumption); (case e14_195 => assumption); (case q1_195 => (walk_at "PICK")); (case q2_195 => (walk_at "PICK")); (case f2_195 => k_mem); (case f3_195 => k_mem); (case f4_195 => k_mem); (case b1_195 => (walk_at "BUND")); (case s1_195 => walk_at "SCENE"); (case a4_195 => assumption); (case a5_195 => assumption); (case a6_195 => assumption); (case b2_195 => (walk_at "BUND")); (case a7_195 => assumption); (case a8_195 => assumption); (case a9_195 => assumption); (case a10_195 => assumption); (case m1_195 => k_mem); (case n1_195 => k_all); (case n2_195 => k_all); (case a11_195 => assumption); (case a13_195 => assumption); (case m5_195 => k_mem); (case b3_195 => (walk_at "BUND")); (case kd_195 => ktr_room); (case ku_195 => ktr_units); k_whole;  intro o9z g9z tn9z u9z w9z h9z tk9z F9z N9z; (try dsimp only); (try k_fold)) | (refine' con_use ?k1_196 ?k2_196 ?k3_196 ?k4_196 ?k5_196 ?kK_196 ?kd_196 ?ku_196 (c_hang _ _ _ _ _ _ _ _ _ _ _ ?b1_196 ?a1_196 ?a2_196 ?a3_196) ?_; (case k1_196 => k_asm); (case k2_196 => k_asm); (case k3_196 => k_asm); (case k4_196 => k_asm); (case k5_196 => k_asm); (case kK_196 => first | exact rfl | assumption); (case b1_196 => (walk_at "BUND")); (case a1_196 => assumption); (case a2_196 => assumption); (case a3_196 => assumption); (case kd_196 => ktr_room); (case ku_196 => ktr_units); k_whole;  intro  h9z tk9z F9z N9z; (try dsimp only); (try k_fold)) | (refine' con_use ?k1_197 ?k2_197 ?k3_197 ?k4_197 ?k5_197 ?kK_197 ?kd_197 ?ku_197 (c_match _ _ _ _ _ _ _ _ _ _ _ _ _ _ _ _ _ _ _ _ _ _ _ _ _ _ _ _ _ ?s1_197 ?b1_197 ?a1_197 ?a2_197 ?a3_197 ?a4_197 ?m1_197 ?m2_197 ?a5_197 ?b2_197 ?m3_197 ?m4_197 ?m5_197 ?m6_197 ?m7_197) ?_; (case k1_197 => k_asm); (case k2_197 => k_asm); (case k3_197 => k_asm); (case k4_197 => k_asm); (case k5_197 => k_asm); (case kK_197 => first | exact rfl | assumption); (case s1_197 => walk_at "SCENE"); (case b1_197 => (walk_at "BUND")); (case a1_197 => assumption); (case a2_197 => assumption); (case a3_197 => assumption); (case a4_197 => assumption); (case m1_197 => k_mem); (case m2_197 => k_mem); (case a5_197 => assumption); (case b2_197 => (walk_at "BUND")); (case m3_197 => k_mem); (case m4_197 => k_mem); (case m5_197 => k_mem); (case m6_197 => k_mem); (case m7_197 => k_mem); (case kd_197 => ktr_room); (case ku_197 => ktr_units); k_whole;  intro M9z P9z t1z t2z t3z x7z x8z h9z tk9z F9z N9z; (try dsimp only); (try k_fold)) | (refine' con_use ?k1_198 ?k2_198 ?k3_198 ?k4_198 ?k5_198 ?kK_198 ?kd_198 ?ku_198 (c_rules _ _ _ _ _ _ _ _ _ ?b1_198 ?l1_198 ?l2_198) ?_; (case k1_198 => k_asm); (case k2_198 => k_asm); (case k3_198 => k_asm); (case k4_198 => k_asm); (case k5_198 => k_asm); (case kK_198 => first | exact rfl | assumption); (case b1_198 => (walk_at "BUND")); (case l1_198 => omega); (case l2_198 => omega); (case kd_198 => ktr_room); (case ku_198 => ktr_units); k_whole;  intro R9z T9z B9z I9z A9z q9z no9z t9z tc9z hno9z x1z x2z x3z x4z x5z x6z h9z tk9z F9z N9z; (try dsimp only); (try k_fold)) | ((with_reducible show wpAny _ _ (pyIter (Value.ref _)) (fun it s₂ => LoopAtV _ _ _ _ _ _ _ _ _ it s₂) _ _); k_dflt (refine' iter_ret1 ?k1_199 ?k2_199 ?k3_199 ?k4_199 ?_; (case k1_199 => exact rfl); (case k4_199 => k_asm); (case k3_199 => k_asm); (case k2_199 => k_mem)); k_whole; intro h'z tk'z F'z N'z; (try dsimp only); (try k_fold)) | fin_once hold walk1 | fail); (try k_steps)))); (all_goals (try ((with_reducible refine unheld ?_); (first | (refine' con_use2 ?k1_200 ?k2_200 ?k3_200 ?k4_200 ?k5_200 ?kK_200 ?kd_200 ?ku_200 ?q1_200 ?q2_200 (c_actions ?e0_200 ?b1_200 ?s1_200 ?a4_200 ?a5_200 ?a6_200 ?b2_200 ?a7_200 ?a8_200 ?a9_200 ?a10_200 ?m1_200 ?n1_200 ?n2_200 ?a11_200 ?e12_200 ?a13_200 ?e14_200 ?f2_200 ?f3_200 ?f4_200 ?m5_200 ?b3_200) ?_; (case k1_200 => k_asm); (case k2_200 => k_asm); (case k3_200 => k_asm); (case k4_200 => k_asm); (case k5_200 => k_asm); (case kK_200 => first | exact rfl | assumption); (case e0_200 => assumption); (case e12_200 => assumption); (case e14_200 => assumption); (case q1_200 => (walk_at "PICK")); (case q2_200 => (walk_at "PICK")); (case f2_200 => k_mem); (case f3_200 => k_mem); (case f4_200 => k_mem); (case b1_200 => (walk_at "BUND")); (case s1_200 => walk_at "SCENE"); (case a4_200 => assumption); (case a5_200 => assumption); (case a6_200 => assumption); (case b2_200 => (walk_at "BUND")); (case a7_200 => assumption); (case a8_200 => assumption); (case a9_200 => assumption); (case a10_200 => assumption); (case m1_200 => k_mem); (case n1_200 => k_all); (case n2_200 => k_all); (case a11_200 => assumption); (case a13_200 => assumption); (case m5_200 => k_mem); (case b3_200 => (walk_at "BUND")); (case kd_200 => ktr_room); (case ku_200 => ktr_units); k_whole;  intro o9z g9z tn9z u9z w9z h9z tk9z F9z N9z; (try dsimp only); (try k_fold)) | (refine' con_use ?k1_201 ?k2_201 ?k3_201 ?k4_201 ?k5_201 ?kK_201 ?kd_201 ?ku_201 (c_hang _ _ _ _ _ _ _ _ _ _ _ ?b1_201 ?a1_201 ?a2_201 ?a3_201) ?_; (case k1_201 => k_asm); (case k2_201 => k_asm); (case k3_201 => k_asm); (case k4_201 => k_asm); (case k5_201 => k_asm); (case kK_201 => first | exact rfl | assumption); (case b1_201 => (walk_at "BUND")); (case a1_201 => assumption); (case a2_201 => assumption); (case a3_201 => assumption); (case kd_201 => ktr_room); (case ku_201 => ktr_units); k_whole;  intro  h9z tk9z F9z N9z; (try dsimp only); (try k_fold)) | (refine' con_use ?k1_202 ?k2_202 ?k3_202 ?k4_202 ?k5_202 ?kK_202 ?kd_202 ?ku_202 (c_match _ _ _ _ _ _ _ _ _ _ _ _ _ _ _ _ _ _ _ _ _ _ _ _ _ _ _ _ _ ?s1_202 ?b1_202 ?a1_202 ?a2_202 ?a3_202 ?a4_202 ?m1_202 ?m2_202 ?a5_202 ?b2_202 ?m3_202 ?m4_202 ?m5_202 ?m6_202 ?m7_202) ?_; (case k1_202 => k_asm); (case k2_202 => k_asm); (case k3_202 => k_asm); (case k4_202 => k_asm); (case k5_202 => k_asm); (case kK_202 => first | exact rfl | assumption); (case s1_202 => walk_at "SCENE"); (case b1_202 => (walk_at "BUND")); (case a1_202 => assumption); (case a2_202 => assumption); (case a3_202 => assumption); (case a4_202 => assumption); (case m1_202 => k_mem); (case m2_202 => k_mem); (case a5_202 => assumption); (case b2_202 => (walk_at "BUND")); (case m3_202 => k_mem); (case m4_202 => k_mem); (case m5_202 => k_mem); (case m6_202 => k_mem); (case m7_202 => k_mem); (case kd_202 => ktr_room); (case ku_202 => ktr_units); k_whole;  intro M9z P9z t1z t2z t3z x7z x8z h9z tk9z F9z N9z; (try dsimp only); (try k_fold)) | (refine' con_use ?k1_203 ?k2_203 ?k3_203 ?k4_203 ?k5_203 ?kK_203 ?kd_203 ?ku_203 (c_rules _ _ _ _ _ _ _ _ _ ?b1_203 ?l1_203 ?l2_203) ?_; (case k1_203 => k_asm); (case k2_203 => k_asm); (case k3_203 => k_asm); (case k4_203 => k_asm); (case k5_203 => k_asm); (case kK_203 => first | exact rfl | assumption); (case b1_203 => (walk_at "BUND")); (case l1_203 => omega); (case l2_203 => omega); (case kd_203 => ktr_room); (case ku_203 => ktr_units); k_whole;  intro R9z T9z B9z I9z A9z q9z no9z t9z tc9z hno9z x1z x2z x3z x4z x5z x6z h9z tk9z F9z N9z; (try dsimp only); (try k_fold)) | ((with_reducible show wpAny _ _ (pyIter (Value.ref _)) (fun it s₂ => LoopAtV _ _ _ _ _ _ _ _ _ it s₂) _ _); k_dflt (refine' iter_ret1 ?k1_204 ?k2_204 ?k3_204 ?k4_204 ?_; (case k1_204 => exact rfl); (case k4_204 => k_asm); (case k3_204 => k_asm); (case k2_204 => k_mem)); k_whole; intro h'z tk'z F'z N'z; (try dsimp only); (try k_fold)) | fin_once hold walk1 | fail); (try k_steps)))); (all_goals (try ((with_reducible refine unheld ?_); (first | (refine' con_use2 ?k1_205 ?k2_205 ?k3_205 ?k4_205 ?k5_205 ?kK_205 ?kd_205 ?ku_205 ?q1_205 ?q2_205 (c_actions ?e0_205 ?b1_205 ?s1_205 ?a4_205 ?a5_205 ?a6_205 ?b2_205 ?a7_205 ?a8_205 ?a9_205 ?a10_205 ?m1_205 ?n1_205 ?n2_205 ?a11_205 ?e12_205 ?a13_205 ?e14_205 ?f2_205 ?f3_205 ?f4_205 ?m5_205 ?b3_205) ?_; (case k1_205 => k_asm); (case k2_205 => k_asm); (case k3_205 => k_asm); (case k4_205 => k_asm); (case k5_205 => k_asm); (case kK_205 => first | exact rfl | assumption); (case e0_205 => assumption); (case e12_205 => assumption); (case e14_205 => assumption); (case q1_205 => (walk_at "PICK")); (case q2_205 => (walk_at "PICK")); (case f2_205 => k_mem); (case f3_205 => k_mem); (case f4_205 => k_mem); (case b1_205 => (walk_at "BUND")); (case s1_205 => walk_at "SCENE"); (case a4_205 => assumption); (case a5_205 => assumption); (case a6_205 => assumption); (case b2_205 => (walk_at "BUND")); (case a7_205 => assumption); (case a8_205 => assumption); (case a9_205 => assumption); (case a10_205 => assumption); (case m1_205 => k_mem); (case n1_205 => k_all); (case n2_205 => k_all); (case a11_205 => assumption); (case a13_205 => assumption); (case m5_205 => k_mem); (case b3_205 => (walk_at "BUND")); (case kd_205 => ktr_room); (case ku_205 => ktr_units); k_whole;  intro o9z g9z tn9z u9z w9z h9z tk9z F9z N9z; (try dsimp only); (try k_fold)) | (refine' con_use ?k1_206 ?k2_206 ?k3_206 ?k4_206 ?k5_206 ?kK_206 ?kd_206 ?ku_206 (c_hang _ _ _ _ _ _ _ _ _ _ _ ?b1_206 ?a1_206 ?a2_206 ?a3_206) ?_; (case k1_206 => k_asm); (case k2_206 => k_asm); (case k3_206 => k_asm); (case k4_206 => k_asm); (case k5_206 => k_asm); (case kK_206 => first | exact rfl | assumption); (case b1_206 => (walk_at "BUND")); (case a1_206 => assumption); (case a2_206 => assumption); (case a3_206 => assumption); (case kd_206 => ktr_room); (case ku_206 => ktr_units); k_whole;  intro  h9z tk9z F9z N9z; (try dsimp only); (try k_fold)) | (refine' con_use ?k1_207 ?k2_207 ?k3_207 ?k4_207 ?k5_207 ?kK_207 ?kd_207 ?ku_207 (c_match _ _ _ _ _ _ _ _ _ _ _ _ _ _ _ _ _ _ _ _ _ _ _ _ _ _ _ _ _ ?s1_207 ?b1_207 ?a1_207 ?a2_207 ?a3_207 ?a4_207 ?m1_207 ?m2_207 ?a5_207 ?b2_207 ?m3_207 ?m4_207 ?m5_207 ?m6_207 ?m7_207) ?_; (case k1_207 => k_asm); (case k2_207 => k_asm); (case k3_207 => k_asm); (case k4_207 => k_asm); (case k5_207 => k_asm); (case kK_207 => first | exact rfl | assumption); (case s1_207 => walk_at "SCENE"); (case b1_207 => (walk_at "BUND")); (case a1_207 => assumption); (case a2_207 => assumption); (case a3_207 => assumption); (case a4_207 => assumption); (case m1_207 => k_mem); (case m2_207 => k_mem); (case a5_207 => assumption); (case b2_207 => (walk_at "BUND")); (case m3_207 => k_mem); (case m4_207 => k_mem); (case m5_207 => k_mem); (case m6_207 => k_mem); (case m7_207 => k_mem); (case kd_207 => ktr_room); (case ku_207 => ktr_units); k_whole;  intro M9z P9z t1z t2z t3z x7z x8z h9z tk9z F9z N9z; (try dsimp only); (try k_fold)) | (refine' con_use ?k1_208 ?k2_208 ?k3_208 ?k4_208 ?k5_208 ?kK_208 ?kd_208 ?ku_208 (c_rules _ _ _ _ _ _ _ _ _ ?b1_208 ?l1_208 ?l2_208) ?_; (case k1_208 => k_asm); (case k2_208 => k_asm); (case k3_208 => k_asm); (case k4_208 => k_asm); (case k5_208 => k_asm); (case kK_208 => first | exact rfl | assumption); (case b1_208 => (walk_at "BUND")); (case l1_208 => omega); (case l2_208 => omega); (case kd_208 => ktr_room); (case ku_208 => ktr_units); k_whole;  intro R9z T9z B9z I9z A9z q9z no9z t9z tc9z hno9z x1z x2z x3z x4z x5z x6z h9z tk9z F9z N9z; (try dsimp only); (try k_fold)) | ((with_reducible show wpAny _ _ (pyIter (Value.ref _)) (fun it s₂ => LoopAtV _ _ _ _ _ _ _ _ _ it s₂) _ _); k_dflt (refine' iter_ret1 ?k1_209 ?k2_209 ?k3_209 ?k4_209 ?_; (case k1_209 => exact rfl); (case k4_209 => k_asm); (case k3_209 => k_asm); (case k2_209 => k_mem)); k_whole; intro h'z tk'z F'z N'z; (try dsimp only); (try k_fold)) | fin_once hold walk1 | fail); (try k_steps)))); (all_goals (try ((with_reducible refine unheld ?_); (first | (refine' con_use2 ?k1_210 ?k2_210 ?k3_210 ?k4_210 ?k5_210 ?kK_210 ?kd_210 ?ku_210 ?q1_210 ?q2_210 (c_actions ?e0_210 ?b1_210 ?s1_210 ?a4_210 ?a5_210 ?a6_210 ?b2_210 ?a7_210 ?a8_210 ?a9_210 ?a10_210 ?m1_210 ?n1_210 ?n2_210 ?a11_210 ?e12_210 ?a13_210 ?e14_210 ?f2_210 ?f3_210 ?f4_210 ?m5_210 ?b3_210) ?_; (case k1_210 => k_asm); (case k2_210 => k_asm); (case k3_210 => k_asm); (case k4_210 => k_asm); (case k5_210 => k_asm); (case kK_210 => first | exact rfl | assumption); (case e0_210 => assumption); (case e12_210 => assumption); (case e14_210 => assumption); (case q1_210 => (walk_at "PICK")); (case q2_210 => (walk_at "PICK")); (case f2_210 => k_mem); (case f3_210 => k_mem); (case f4_210 => k_mem); (case b1_210 => (walk_at "BUND")); (case s1_210 => walk_at "SCENE"); (case a4_210 => assumption); (case a5_210 => assumption); (case a6_210 => assumption); (case b2_210 => (walk_at "BUND")); (case a7_210 => assumption); (case a8_210 => assumption); (case a9_210 => assumption); (case a10_210 => assumption); (case m1_210 => k_mem); (case n1_210 => k_all); (case n2_210 => k_all); (case a11_210 => assumption); (case a13_210 => assumption); (case m5_210 => k_mem); (case b3_210 => (walk_at "BUND")); (case kd_210 => ktr_room); (case ku_210 => ktr_units); k_whole;  intro o9z g9z tn9z u9z w9z h9z tk9z F9z N9z; (try dsimp only); (try k_fold)) | (refine' con_use ?k1_211 ?k2_211 ?k3_211 ?k4_211 ?k5_211 ?kK_211 ?kd_211 ?ku_211 (c_hang _ _ _ _ _ _ _ _ _ _ _ ?b1_211 ?a1_211 ?a2_211 ?a3_211) ?_; (case k1_211 => k_asm); (case k2_211 => k_asm); (case k3_211 => k_asm); (case k4_211 => k_asm); (case k5_211 => k_asm); (case kK_211 => first | exact rfl | assumption); (case b1_211 => (walk_at "BUND")); (case a1_211 => assumption); (case a2_211 => assumption); (case a3_211 => assumption); (case kd_211 => ktr_room); (case ku_211 => ktr_units); k_whole;  intro  h9z tk9z F9z N9z; (try dsimp only); (try k_fold)) | (refine' con_use ?k1_212 ?k2_212 ?k3_212 ?k4_212 ?k5_212 ?kK_212 ?kd_212 ?ku_212 (c_match _ _ _ _ _ _ _ _ _ _ _ _ _ _ _ _ _ _ _ _ _ _ _ _ _ _ _ _ _ ?s1_212 ?b1_212 ?a1_212 ?a2_212 ?a3_212 ?a4_212 ?m1_212 ?m2_212 ?a5_212 ?b2_212 ?m3_212 ?m4_212 ?m5_212 ?m6_212 ?m7_212) ?_; (case k1_212 => k_asm); (case k2_212 => k_asm); (case k3_212 => k_asm); (case k4_212 => k_asm); (case k5_212 => k_asm); (case kK_212 => first | exact rfl | assumption); (case s1_212 => walk_at "SCENE"); (case b1_212 => (walk_at "BUND")); (case a1_212 => assumption); (case a2_212 => assumption); (case a3_212 => assumption); (case a4_212 => assumption); (case m1_212 => k_mem); (case m2_212 => k_mem); (case a5_212 => assumption); (case b2_212 => (walk_at "BUND")); (case m3_212 => k_mem); (case m4_212 => k_mem); (case m5_212 => k_mem); (case m6_212 => k_mem); (case m7_212 => k_mem); (case kd_212 => ktr_room); (case ku_212 => ktr_units); k_whole;  intro M9z P9z t1z t2z t3z x7z x8z h9z tk9z F9z N9z; (try dsimp only); (try k_fold)) | (refine' con_use ?k1_213 ?k2_213 ?k3_213 ?k4_213 ?k5_213 ?kK_213 ?kd_213 ?ku_213 (c_rules _ _ _ _ _ _ _ _ _ ?b1_213 ?l1_213 ?l2_213) ?_; (case k1_213 => k_asm); (case k2_213 => k_asm); (case k3_213 => k_asm); (case k4_213 => k_asm); (case k5_213 => k_asm); (case kK_213 => first | exact rfl | assumption); (case b1_213 => (walk_at "BUND")); (case l1_213 => omega); (case l2_213 => omega); (case kd_213 => ktr_room); (case ku_213 => ktr_units); k_whole;  intro R9z T9z B9z I9z A9z q9z no9z t9z tc9z hno9z x1z x2z x3z x4z x5z x6z h9z tk9z F9z N9z; (try dsimp only); (try k_fold)) | ((with_reducible show wpAny _ _ (pyIter (Value.ref _)) (fun it s₂ => LoopAtV _ _ _ _ _ _ _ _ _ it s₂) _ _); k_dflt (refine' iter_ret1 ?k1_214 ?k2_214 ?k3_214 ?k4_214 ?_; (case k1_214 => exact rfl); (case k4_214 => k_asm); (case k3_214 => k_asm); (case k2_214 => k_mem)); k_whole; intro h'z tk'z F'z N'z; (try dsimp only); (try k_fold)) | fin_once hold walk1 | fail); (try k_steps)))); (all_goals (try ((with_reducible refine unheld ?_); (first | (refine' con_use2 ?k1_215 ?k2_215 ?k3_215 ?k4_215 ?k5_215 ?kK_215 ?kd_215 ?ku_215 ?q1_215 ?q2_215 (c_actions ?e0_215 ?b1_215 ?s1_215 ?a4_215 ?a5_215 ?a6_215 ?b2_215 ?a7_215 ?a8_215 ?a9_215 ?a10_215 ?m1_215 ?n1_215 ?n2_215 ?a11_215 ?e12_215 ?a13_215 ?e14_215 ?f2_215 ?f3_215 ?f4_215 ?m5_215 ?b3_215) ?_; (case k1_215 => k_asm); (case k2_215 => k_asm); (case k3_215 => k_asm); (case k4_215 => k_asm); (case k5_215 => k_asm); (case kK_215 => first | exact rfl | assumption); (case e0_215 => assumption); (case e12_215 => assumption); (case e14_215 => assumption); (case q1_215 => (walk_at "PICK")); (case q2_215 => (walk_at "PICK")); (case f2_215 => k_mem); (case f3_215 => k_mem); (case f4_215 => k_mem); (case b1_215 => (walk_at "BUND")); (case s1_215 => walk_at "SCENE"); (case a4_215 => assumption); (case a5_215 => assumption); (case a6_215 => assumption); (case b2_215 => (walk_at "BUND")); (case a7_215 => assumption); (case a8_215 => assumption); (case a9_215 => assumption); (case a10_215 => assumption); (case m1_215 => k_mem); (case n1_215 => k_all); (case n2_215 => k_all); (case a11_215 => assumption); (case a13_215 => assumption); (case m5_215 => k_mem); (case b3_215 => (walk_at "BUND")); (case kd_215 => ktr_room); (case ku_215 => ktr_units); k_whole;  intro o9z g9z tn9z u9z w9z h9z tk9z F9z N9z; (try dsimp only); (try k_fold)) | (refine' con_use ?k1_216 ?k2_216 ?k3_216 ?k4_216 ?k5_216 ?kK_216 ?kd_216 ?ku_216 (c_hang _ _ _ _ _ _ _ _ _ _ _ ?b1_216 ?a1_216 ?a2_216 ?a3_216) ?_; (case k1_216 => k_asm); (case k2_216 => k_asm); (case k3_216 => k_asm); (case k4_216 => k_asm); (case k5_216 => k_asm); (case kK_216 => first | exact rfl | assumption); (case b1_216 => (walk_at "BUND")); (case a1_216 => assumption); (case a2_216 => assumption); (case a3_216 => assumption); (case kd_216 => ktr_room); (case ku_216 => ktr_units); k_whole;  intro  h9z tk9z F9z N9z; (try dsimp only); (try k_fold)) | (refine' con_use ?k1_217 ?k2_217 ?k3_217 ?k4_217 ?k5_217 ?kK_217 ?kd_217 ?ku_217 (c_match _ _ _ _ _ _ _ _ _ _ _ _ _ _ _ _ _ _ _ _ _ _ _ _ _ _ _ _ _ ?s1_217 ?b1_217 ?a1_217 ?a2_217 ?a3_217 ?a4_217 ?m1_217 ?m2_217 ?a5_217 ?b2_217 ?m3_217 ?m4_217 ?m5_217 ?m6_217 ?m7_217) ?_; (case k1_217 => k_asm); (case k2_217 => k_asm); (case k3_217 => k_asm); (case k4_217 => k_asm); (case k5_217 => k_asm); (case kK_217 => first | exact rfl | assumption); (case s1_217 => walk_at "SCENE"); (case b1_217 => (walk_at "BUND")); (case a1_217 => assumption); (case a2_217 => assumption); (case a3_217 => assumption); (case a4_217 => assumption); (case m1_217 => k_mem); (case m2_217 => k_mem); (case a5_217 => assumption); (case b2_217 => (walk_at "BUND")); (case m3_217 => k_mem); (case m4_217 => k_mem); (case m5_217 => k_mem); (case m6_217 => k_mem); (case m7_217 => k_mem); (case kd_217 => ktr_room); (case ku_217 => ktr_units); k_whole;  intro M9z P9z t1z t2z t3z x7z x8z h9z tk9z F9z N9z; (try dsimp only); (try k_fold)) | (refine' con_use ?k1_218 ?k2_218 ?k3_218 ?k4_218 ?k5_218 ?kK_218 ?kd_218 ?ku_218 (c_rules _ _ _ _ _ _ _ _ _ ?b1_218 ?l1_218 ?l2_218) ?_; (case k1_218 => k_asm); (case k2_218 => k_asm); (case k3_218 => k_asm); (case k4_218 => k_asm); (case k5_218 => k_asm); (case kK_218 => first | exact rfl | assumption); (case b1_218 => (walk_at "BUND")); (case l1_218 => omega); (case l2_218 => omega); (case kd_218 => ktr_room); (case ku_218 => ktr_units); k_whole;  intro R9z T9z B9z I9z A9z q9z no9z t9z tc9z hno9z x1z x2z x3z x4z x5z x6z h9z tk9z F9z N9z; (try dsimp only); (try k_fold)) | ((with_reducible show wpAny _ _ (pyIter (Value.ref _)) (fun it s₂ => LoopAtV _ _ _ _ _ _ _ _ _ it s₂) _ _); k_dflt (refine' iter_ret1 ?k1_219 ?k2_219 ?k3_219 ?k4_219 ?_; (case k1_219 => exact rfl); (case k4_219 => k_asm); (case k3_219 => k_asm); (case k2_219 => k_mem)); k_whole; intro h'z tk'z F'z N'z; (try dsimp only); (try k_fold)) | fin_once hold walk1 | fail); (try k_steps)))); (all_goals (try ((with_reducible refine unheld ?_); (first | (refine' con_use2 ?k1_220 ?k2_220 ?k3_220 ?k4_220 ?k5_220 ?kK_220 ?kd_220 ?ku_220 ?q1_220 ?q2_220 (c_actions ?e0_220 ?b1_220 ?s1_220 ?a4_220 ?a5_220 ?a6_220 ?b2_220 ?a7_220 ?a8_220 ?a9_220 ?a10_220 ?m1_220 ?n1_220 ?n2_220 ?a11_220 ?e12_220 ?a13_220 ?e14_220 ?f2_220 ?f3_220 ?f4_220 ?m5_220 ?b3_220) ?_; (case k1_220 => k_asm); (case k2_220 => k_asm); (case k3_220 => k_asm); (case k4_220 => k_asm); (case k5_220 => k_asm); (case kK_220 => first | exact rfl | assumption); (case e0_220 => assumption); (case e12_220 => assumption); (case e14_220 => assumption); (case q1_220 => (walk_at "PICK")); (case q2_220 => (walk_at "PICK")); (case f2_220 => k_mem); (case f3_220 => k_mem); (case f4_220 => k_mem); (case b1_220 => (walk_at "BUND")); (case s1_220 => walk_at "SCENE"); (case a4_220 => assumption); (case a5_220 => assumption); (case a6_220 => assumption); (case b2_220 => (walk_at "BUND")); (case a7_220 => assumption); (case a8_220 => assumption); (case a9_220 => assumption); (case a10_220 => assumption); (case m1_220 => k_mem); (case n1_220 => k_all); (case n2_220 => k_all); (case a11_220 => assumption); (case a13_220 => assumption); (case m5_220 => k_mem); (case b3_220 => (walk_at "BUND")); (case kd_220 => ktr_room); (case ku_220 => ktr_units); k_whole;  intro o9z g9z tn9z u9z w9z h9z tk9z F9z N9z; (try dsimp only); (try k_fold)) | (refine' con_use ?k1_221 ?k2_221 ?k3_221 ?k4_221 ?k5_221 ?kK_221 ?kd_221 ?ku_221 (c_hang _ _ _ _ _ _ _ _ _ _ _ ?b1_221 ?a1_221 ?a2_221 ?a3_221) ?_; (case k1_221 => k_asm); (case k2_221 => k_asm); (case k3_221 => k_asm); (case k4_221 => k_asm); (case k5_221 => k_asm); (case kK_221 => first | exact rfl | assumption); (case b1_221 => (walk_at "BUND")); (case a1_221 => assumption); (case a2_221 => assumption); (case a3_221 => assumption); (case kd_221 => ktr_room); (case ku_221 => ktr_units); k_whole;  intro  h9z tk9z F9z N9z; (try dsimp only); (try k_fold)) | (refine' con_use ?k1_222 ?k2_222 ?k3_222 ?k4_222 ?k5_222 ?kK_222 ?kd_222 ?ku_222 (c_match _ _ _ _ _ _ _ _ _ _ _ _ _ _ _ _ _ _ _ _ _ _ _ _ _ _ _ _ _ ?s1_222 ?b1_222 ?a1_222 ?a2_222 ?a3_222 ?a4_222 ?m1_222 ?m2_222 ?a5_222 ?b2_222 ?m3_222 ?m4_222 ?m5_222 ?m6_222 ?m7_222) ?_; (case k1_222 => k_asm); (case k2_222 => k_asm); (case k3_222 => k_asm); (case k4_222 => k_asm); (case k5_222 => k_asm); (case kK_222 => first | exact rfl | assumption); (case s1_222 => walk_at "SCENE"); (case b1_222 => (walk_at "BUND")); (case a1_222 => assumption); (case a2_222 => assumption); (case a3_222 => assumption); (case a4_222 => assumption); (case m1_222 => k_mem); (case m2_222 => k_mem); (case a5_222 => assumption); (case b2_222 => (walk_at "BUND")); (case m3_222 => k_mem); (case m4_222 => k_mem); (case m5_222 => k_mem); (case m6_222 => k_mem); (case m7_222 => k_mem); (case kd_222 => ktr_room); (case ku_222 => ktr_units); k_whole;  intro M9z P9z t1z t2z t3z x7z x8z h9z tk9z F9z N9z; (try dsimp only); (try k_fold)) | (refine' con_use ?k1_223 ?k2_223 ?k3_223 ?k4_223 ?k5_223 ?kK_223 ?kd_223 ?ku_223 (c_rules _ _ _ _ _ _ _ _ _ ?b1_223 ?l1_223 ?l2_223) ?_; (case k1_223 => k_asm); (case k2_223 => k_asm); (case k3_223 => k_asm); (case k4_223 => k_asm); (case k5_223 => k_asm); (case kK_223 => first | exact rfl | assumption); (case b1_223 => (walk_at "BUND")); (case l1_223 => omega); (case l2_223 => omega); (case kd_223 => ktr_room); (case ku_223 => ktr_units); k_whole;  intro R9z T9z B9z I9z A9z q9z no9z t9z tc9z hno9z x1z x2z x3z x4z x5z x6z h9z tk9z F9z N9z; (try dsimp only); (try k_fold)) | ((with_reducible show wpAny _ _ (pyIter (Value.ref _)) (fun it s₂ => LoopAtV _ _ _ _ _ _ _ _ _ it s₂) _ _); k_dflt (refine' iter_ret1 ?k1_224 ?k2_224 ?k3_224 ?k4_224 ?_; (case k1_224 => exact rfl); (case k4_224 => k_asm); (case k3_224 => k_asm); (case k2_224 => k_mem)); k_whole; intro h'z tk'z F'z N'z; (try dsimp only); (try k_fold)) | fin_once hold walk1 | fail); (try k_steps)))); (all_goals (try ((with_reducible refine unheld ?_); (first | (refine' con_use2 ?k1_225 ?k2_225 ?k3_225 ?k4_225 ?k5_225 ?kK_225 ?kd_225 ?ku_225 ?q1_225 ?q2_225 (c_actions ?e0_225 ?b1_225 ?s1_225 ?a4_225 ?a5_225 ?a6_225 ?b2_225 ?a7_225 ?a8_225 ?a9_225 ?a10_225 ?m1_225 ?n1_225 ?n2_225 ?a11_225 ?e12_225 ?a13_225 ?e14_225 ?f2_225 ?f3_225 ?f4_225 ?m5_225 ?b3_225) ?_; (case k1_225 => k_asm); (case k2_225 => k_asm); (case k3_225 => k_asm); (case k4_225 => k_asm); (case k5_225 => k_asm); (case kK_225 => first | exact rfl | assumption); (case e0_225 => assumption); (case e12_225 => assumption); (case e14_225 => assumption); (case q1_225 => (walk_at "PICK")); (case q2_225 => (walk_at "PICK")); (case f2_225 => k_mem); (case f3_225 => k_mem); (case f4_225 => k_mem); (case b1_225 => (walk_at "BUND")); (case s1_225 => walk_at "SCENE"); (case a4_225 => assumption); (case a5_225 => assumption); (case a6_225 => assumption); (case b2_225 => (walk_at "BUND")); (case a7_225 => assumption); (case a8_225 => assumption); (case a9_225 => assumption); (case a10_225 => assumption); (case m1_225 => k_mem); (case n1_225 => k_all); (case n2_225 => k_all); (case a11_225 => assumption); (case a13_225 => assumption); (case m5_225 => k_mem); (case b3_225 => (walk_at "BUND")); (case kd_225 => ktr_room); (case ku_225 => ktr_units); k_whole;  intro o9z g9z tn9z u9z w9z h9z tk9z F9z N9z; (try dsimp only); (try k_fold)) | (refine' con_use ?k1_226 ?k2_226 ?k3_226 ?k4_226 ?k5_226 ?kK_226 ?kd_226 ?ku_226 (c_hang _ _ _ _ _ _ _ _ _ _ _ ?b1_226 ?a1_226 ?a2_226 ?a3_226) ?_; (case k1_226 => k_asm); (case k2_226 => k_asm); (case k3_226 => k_asm); (case k4_226 => k_asm); (case k5_226 => k_asm); (case kK_226 => first | exact rfl | assumption); (case b1_226 => (walk_at "BUND")); (case a1_226 => assumption); (case a2_226 => assumption); (case a3_226 => assumption); (case kd_226 => ktr_room); (case ku_226 => ktr_units); k_whole;  intro  h9z tk9z F9z N9z; (try dsimp only); (try k_fold)) | (refine' con_use ?k1_227 ?k2_227 ?k3_227 ?k4_227 ?k5_227 ?kK_227 ?kd_227 ?ku_227 (c_match _ _ _ _ _ _ _ _ _ _ _ _ _ _ _ _ _ _ _ _ _ _ _ _ _ _ _ _ _ ?s1_227 ?b1_227 ?a1_227 ?a2_227 ?a3_227 ?a4_227 ?m1_227 ?m2_227 ?a5_227 ?b2_227 ?m3_227 ?m4_227 ?m5_227 ?m6_227 ?m7_227) ?_; (case k1_227 => k_asm); (case k2_227 => k_asm); (case k3_227 => k_asm); (case k4_227 => k_asm); (case k5_227 => k_asm); (case kK_227 => first | exact rfl | assumption); (case s1_227 => walk_at "SCENE"); (case b1_227 => (walk_at "BUND")); (case a1_227 => assumption); (case a2_227 => assumption); (case a3_227 => assumption); (case a4_227 => assumption); (case m1_227 => k_mem); (case m2_227 => k_mem); (case a5_227 => assumption); (case b2_227 => (walk_at "BUND")); (case m3_227 => k_mem); (case m4_227 => k_mem); (case m5_227 => k_mem); (case m6_227 => k_mem); (case m7_227 => k_mem); (case kd_227 => ktr_room); (case ku_227 => ktr_units); k_whole;  intro M9z P9z t1z t2z t3z x7z x8z h9z tk9z F9z N9z; (try dsimp only); (try k_fold)) | (refine' con_use ?k1_228 ?k2_228 ?k3_228 ?k4_228 ?k5_228 ?kK_228 ?kd_228 ?ku_228 (c_rules _ _ _ _ _ _ _ _ _ ?b1_228 ?l1_228 ?l2_228) ?_; (case k1_228 => k_asm); (case k2_228 => k_asm); (case k3_228 => k_asm); (case k4_228 => k_asm); (case k5_228 => k_asm); (case kK_228 => first | exact rfl | assumption); (case b1_228 => (walk_at "BUND")); (case l1_228 => omega); (case l2_228 => omega); (case kd_228 => ktr_room); (case ku_228 => ktr_units); k_whole;  intro R9z T9z B9z I9z A9z q9z no9z t9z tc9z hno9z x1z x2z x3z x4z x5z x6z h9z tk9z F9z N9z; (try dsimp only); (try k_fold)) | ((with_reducible show wpAny _ _ (pyIter (Value.ref _)) (fun it s₂ => LoopAtV _ _ _ _ _ _ _ _ _ it s₂) _ _); k_dflt (refine' iter_ret1 ?k1_229 ?k2_229 ?k3_229 ?k4_229 ?_; (case k1_229 => exact rfl); (case k4_229 => k_asm); (case k3_229 => k_asm); (case k2_229 => k_mem)); k_whole; intro h'z tk'z F'z N'z; (try dsimp only); (try k_fold)) | fin_once hold walk1 | fail); (try k_steps)))))
  refine' hret _ _ _ _ ?zi ?ze _ _ (by k_asm) (cb_drop (by assumption) ?zd)
  case zd => walk_at "SUB"
  case zi => assumption
  case ze => assumption
end
theorem Con.weak {w : World} {mean : ExcName → Option Value} {mg mb : Str → Option Value} {f : Addr} {dn cn dn' cn' : Nat} {vs : List Value} {news : Led} {Post : (Value → Led → Prop) → Prop} (h : Con w mean mg mb f dn cn vs news Post) (h1 : dn ≤ dn') (h2 : cn ≤ cn') : Con w mean mg mb f dn' cn' vs news Post :=
  fun dp un gd nm cs a ccd cl outer A₀ base h₀ L m s Q E B F X N T hk hd hu => h dp un gd nm cs a ccd cl outer A₀ base h₀ L m s Q E B F X N T hk (by omega) (by omega)
theorem SubC.weak {w : World} {mean : ExcName → Option Value} {mg mb : Str → Option Value} {lks k0 k1 k2 k3 : Addr} {r0 r1 r2 : List Int} {lk : Addr} {F : St → St} {D D' : Int} {dn cn dn' cn' : Nat} (h : SubC w mean mg mb lks k0 k1 k2 k3 r0 r1 r2 lk F D dn cn) (h0 : D' ≤ D) (h1 : dn ≤ dn') (h2 : cn ≤ cn') : SubC w mean mg mb lks k0 k1 k2 k3 r0 r1 r2 lk F D' dn' cn' :=
  fun rest sc b gd S row inf G d at' n k g vs oG c tn ta a1 a2 a3 a4 a5 a6 a7 a8 a9 a10 a11 a12 a13 a14 a15 a16 a17 a18 => (h rest sc b gd S row inf G d at' n k g vs oG c tn ta a1 a2 a3 (Int.le_trans a4 h0) a5 a6 a7 a8 a9 a10 a11 a12 a13 a14 a15 a16 a17 a18).weak h1 h2
section
local macro_rules | `(tactic| walk_at "pyIter ref") => `(tactic| walk_at "HOLD")
local macro_rules | `(tactic| walk_at "call ref") => `(tactic| walk_at "HOLD")
set_option maxHeartbeats 2000000 in
theorem sub_single {w : World} {mean : ExcName → Option Value} {mg mb : Str → Option Value} {lks k0 k1 k2 k3 : Addr} {r0 r1 r2 : List Int} (D : Int) : SubC w mean mg mb lks k0 k1 k2 k3 r0 r1 r2 k3 leaf D 20 360 := by
  intro rest sc b gd S row inf G d at' n k g vs oG c tn ta hall hs hd0 hdD hb h0 h1 h2 hx hi hS hG hSG hD hgk hk0 hkn hn
  have hall2 := hall
  obtain ⟨-, -, -, -, si, hLK, hsi⟩ := hall2
  refine hLK.elim fun ld tl lc TL v9 l1 l2 l3 => ?_
  have hs2 := hs
  refine hs2.elim fun sd TS s1 s2 => ?_
  unfold Con
  have hfill : (PySem.Challenge.rw_pf0148_01, hd.heap_39) = (PySem.Challenge.rw_pf0148_01, hd.heap_39) := rfl
  intro dp un gd nm cs a ccd cl outer A₀ base h₀ L m s Q E B F X N T hk hdp hun hret
  revert hfill
  k_fill
  intro hfill; clear hfill
  have hMk := kstMark
  k_with_none
  refine wpAny_call ?_
  k_dflt ktr_enter
  (k_steps; (all_goals (try ((with_reducible refine unheld ?_); (first | (refine' con_use1 ?k1_230 ?k2_230 ?k3_230 ?k4_230 ?k5_230 ?kK_230 ?kd_230 ?ku_230 ?q1_230 (c_single ?s1_230 ?b1_230 ?a1_230 ?a2_230 ?a3_230 ?a4_230 ?m1_230 ?e5_230 ?n1_230 ?b2_230 ?l1_230 ?l2_230) ?_; (case k1_230 => k_asm); (case k2_230 => k_asm); (case k3_230 => k_asm); (case k4_230 => k_asm); (case k5_230 => k_asm); (case kK_230 => first | exact rfl | assumption); (case e5_230 => assumption); (case q1_230 => (walk_at "PICK")); (case s1_230 => walk_at "SCENE"); (case b1_230 => (walk_at "BUND")); (case a1_230 => assumption); (case a2_230 => assumption); (case a3_230 => assumption); (case a4_230 => assumption); (case m1_230 => k_mem); (case n1_230 => k_all); (case b2_230 => (walk_at "BUND")); (case l1_230 => omega); (case l2_230 => omega); (case kd_230 => ktr_room); (case ku_230 => ktr_units); k_whole;  intro o9z t9z u9z h9z tk9z F9z N9z; (try dsimp only); (try k_fold)) | ((with_reducible show wpAny _ _ (pyIter (Value.ref _)) (fun it s₂ => LoopAtV _ _ _ _ _ _ _ _ _ it s₂) _ _); k_dflt (refine' iter_ret1 ?k1_231 ?k2_231 ?k3_231 ?k4_231 ?_; (case k1_231 => exact rfl); (case k4_231 => k_asm); (case k3_231 => k_asm); (case k2_231 => k_mem)); k_whole; intro h'z tk'z F'z N'z; (try dsimp only); (try k_fold)) | fin_once hold walk1 | fail); (try k_steps)))); (all_goals (try ((with_reducible refine unheld ?_); (first | (refine' con_use1 ?k1_232 ?k2_232 ?k3_232 ?k4_232 ?k5_232 ?kK_232 ?kd_232 ?ku_232 ?q1_232 (c_single ?s1_232 ?b1_232 ?a1_232 ?a2_232 ?a3_232 ?a4_232 ?m1_232 ?e5_232 ?n1_232 ?b2_232 ?l1_232 ?l2_232) ?_; (case k1_232 => k_asm); (case k2_232 => k_asm); (case k3_232 => k_asm); (case k4_232 => k_asm); (case k5_232 => k_asm); (case kK_232 => first | exact rfl | assumption); (case e5_232 => assumption); (case q1_232 => (walk_at "PICK")); (case s1_232 => walk_at "SCENE"); (case b1_232 => (walk_at "BUND")); (case a1_232 => assumption); (case a2_232 => assumption); (case a3_232 => assumption); (case a4_232 => assumption); (case m1_232 => k_mem); (case n1_232 => k_all); (case b2_232 => (walk_at "BUND")); (case l1_232 => omega); (case l2_232 => omega); (case kd_232 => ktr_room); (case ku_232 => ktr_units); k_whole;  intro o9z t9z u9z h9z tk9z F9z N9z; (try dsimp only); (try k_fold)) | ((with_reducible show wpAny _ _ (pyIter (Value.ref _)) (fun it s₂ => LoopAtV _ _ _ _ _ _ _ _ _ it s₂) _ _); k_dflt (refine' iter_ret1 ?k1_233 ?k2_233 ?k3_233 ?k4_233 ?_; (case k1_233 => exact rfl); (case k4_233 => k_asm); (case k3_233 => k_asm); (case k2_233 => k_mem)); k_whole; intro h'z tk'z F'z N'z; (try dsimp only); (try k_fold)) | fin_once hold walk1 | fail); (try k_steps)))); (all_goals (try ((with_reducible refine unheld ?_); (first | (refine' con_use1 ?k1_234 ?k2_234 ?k3_234 ?k4_234 ?k5_234 ?kK_234 ?kd_234 ?ku_234 ?q1_234 (c_single ?s1_234 ?b1_234 ?a1_234 ?a2_234 ?a3_234 ?a4_234 ?m1_234 ?e5_234 ?n1_234 ?b2_234 ?l1_234 ?l2_234) ?_; (case k1_234 => k_asm); (case k2_234 => k_asm); (case k3_234 => k_asm); (case k4_234 => k_asm); (case k5_234 => k_asm); (case kK_234 => first | exact rfl | assumption); (case e5_234 => assumption); (case q1_234 => (walk_at "PICK")); (case s1_234 => walk_at "SCENE"); (case b1_234 => (walk_at "BUND")); (case a1_234 => assumption); (case a2_234 => assumption); (case a3_234 => assumption); (case a4_234 => assumption); (case m1_234 => k_mem); (case n1_234 => k_all); (case b2_234 => (walk_at "BUND")); (case l1_234 => omega); (case l2_234 => omega); (case kd_234 => ktr_room); (case ku_234 => ktr_units); k_whole;  intro o9z t9z u9z h9z tk9z F9z N9z; (try dsimp only); (try k_fold)) | ((with_reducible show wpAny _ _ (pyIter (Value.ref _)) (fun it s₂ => LoopAtV _ _ _ _ _ _ _ _ _ it s₂) _ _); k_dflt (refine' iter_ret1 ?k1_235 ?k2_235 ?k3_235 ?k4_235 ?_; (case k1_235 => exact rfl); (case k4_235 => k_asm); (case k3_235 => k_asm); (case k2_235 => k_mem)); k_whole; intro h'z tk'z F'z N'z; (try dsimp only); (try k_fold)) | fin_once hold walk1 | fail); (try k_steps)))); (all_goals (try ((with_reducible refine unheld ?_); (first | (refine' con_use1 ?k1_236 ?k2_236 ?k3_236 ?k4_236 ?k5_236 ?kK_236 ?kd_236 ?ku_236 ?q1_236 (c_single ?s1_236 ?b1_236 ?a1_236 ?a2_236 ?a3_236 ?a4_236 ?m1_236 ?e5_236 ?n1_236 ?b2_236 ?l1_236 ?l2_236) ?_; (case k1_236 => k_asm); (case k2_236 => k_asm); (case k3_236 => k_asm); (case k4_236 => k_asm); (case k5_236 => k_asm); (case kK_236 => first | exact rfl | assumption); (case e5_236 => assumption); (case q1_236 => (walk_at "PICK")); (case s1_236 => walk_at "SCENE"); (case b1_236 => (walk_at "BUND")); (case a1_236 => assumption); (case a2_236 => assumption); (case a3_236 => assumption); (case a4_236 => assumption); (case m1_236 => k_mem); (case n1_236 => k_all); (case b2_236 => (walk_at "BUND")); (case l1_236 => omega); (case l2_236 => omega); (case kd_236 => ktr_room); (case ku_236 => ktr_units); k_whole;  intro o9z t9z u9z h9z tk9z F9z N9z; (try dsimp only); (try k_fold)) | ((with_reducible show wpAny _ _ (pyIter (Value.ref _)) (fun it s₂ => LoopAtV _ _ _ _ _ _ _ _ _ it s₂) _ _); k_dflt (refine' iter_ret1 ?k1_237 ?k2_237 ?k3_237 ?k4_237 ?_; (case k1_237 => exact rfl); (case k4_237 => k_asm); (case k3_237 => k_asm); (case k2_237 => k_mem)); k_whole; intro h'z tk'z F'z N'z; (try dsimp only); (try k_fold)) | fin_once hold walk1 | fail); (try k_steps)))))
  refine' hret _ _ _ _ ?zi ?ze _ _ (by k_asm) (cb_drop (by assumption) ?zd)
  case zd => walk_at "SUB"
  case zi => assumption
  case ze => show g + 1 = 10 + (k + 1); omega
end
section
local macro_rules | `(tactic| walk_at "pyIter ref") => `(tactic| walk_at "HOLD")
local macro_rules | `(tactic| walk_at "call ref") => `(tactic| walk_at "HOLD")
set_option maxHeartbeats 2000000 in
theorem sub_chain {w : World} {mean : ExcName → Option Value} {mg mb : Str → Option Value} {lks k0 k1 k2 k3 lk : Addr} {r0 r1 r2 row' : List Int} {H : Int → St → St} {D : Int} {dn cn : Nat} (hH : ∀ goal ∈ row', ∃ lj, 0 ≤ goal ∧ goal < 4 ∧ [Value.ref k0, .ref k1, .ref k2, .ref k3][goal.toNat]? = some (.ref lj) ∧ SubC w mean mg mb lks k0 k1 k2 k3 r0 r1 r2 lj (H goal) D dn cn ∧ FOk (H goal))
    (hlk : ∀ l, AllIn w l lks k0 k1 k2 k3 r0 r1 r2 → ChainLk w l lk row') (hD6 : D ≤ 6) : SubC w mean mg mb lks k0 k1 k2 k3 r0 r1 r2 lk (acts H row') (D - 1) (dn + 40) (cn + 480) := by
  intro rest sc b gd S row inf G d at' n k g vs oG c tn ta hall hs hd0 hdD hb h0 h1 h2 hx hi hS hG hSG hD hgk hk0 hkn hn
  obtain ⟨tb, act, hLK, ht, hA⟩ := hlk _ hall
  refine hLK.elim fun ld tl lc TL v9 l1 l2 l3 => ?_
  have hs2 := hs
  refine hs2.elim fun sd TS s1 s2 => ?_
  have hok : Ok (n, k) := ⟨hk0, by show k ≤ n; omega, hn⟩
  unfold Con
  have hfill : (PySem.Challenge.rw_pf0148_01, hd.heap_39) = (PySem.Challenge.rw_pf0148_01, hd.heap_39) := rfl
  intro dp un gd nm cs a ccd cl outer A₀ base h₀ L m s Q E B F X N T hk hdp hun hret
  revert hfill
  k_fill
  intro hfill; clear hfill
  have hMk := kstMark
  k_with_none
  refine wpAny_call ?_
  k_dflt ktr_enter
  (k_steps; (all_goals (try ((with_reducible refine unheld ?_); (first | (refine' con_use2 ?k1_238 ?k2_238 ?k3_238 ?k4_238 ?k5_238 ?kK_238 ?kd_238 ?ku_238 ?q1_238 ?q2_238 (c_ctx1 ?e0_238 ?b1_238 ?s1_238 ?l1_238 ?l2_238 ?a3_238 ?b2_238 ?a4_238 ?a5_238 ?a6_238 ?a7_238 ?m1_238 ?n1_238 ?n2_238 ?a8_238 ?e9_238 ?a10_238 ?e11_238 ?l4_238 ?b3_238 ?b4_238) ?_; (case k1_238 => k_asm); (case k2_238 => k_asm); (case k3_238 => k_asm); (case k4_238 => k_asm); (case k5_238 => k_asm); (case kK_238 => first | exact rfl | assumption); (case e0_238 => assumption); (case e9_238 => assumption); (case e11_238 => assumption); (case q1_238 => (walk_at "PICK")); (case q2_238 => (walk_at "PICK")); (case b1_238 => (walk_at "BUND")); (case s1_238 => walk_at "SCENE"); (case l1_238 => omega); (case l2_238 => omega); (case a3_238 => assumption); (case b2_238 => (walk_at "BUND")); (case a4_238 => assumption); (case a5_238 => assumption); (case a6_238 => assumption); (case a7_238 => assumption); (case m1_238 => k_mem); (case n1_238 => k_all); (case n2_238 => k_all); (case a8_238 => assumption); (case a10_238 => assumption); (case l4_238 => omega); (case b3_238 => (walk_at "BUND")); (case b4_238 => (walk_at "BUND")); (case kd_238 => ktr_room); (case ku_238 => ktr_units); k_whole;  intro o9z g9z t9z tn9z u9z w9z h9z tk9z F9z N9z; (try dsimp only); (try k_fold)) | ((with_reducible show wpAny _ _ (pyIter (Value.ref _)) (fun it s₂ => LoopAtV _ _ _ _ _ _ _ _ _ it s₂) _ _); k_dflt (refine' iter_ret1 ?k1_239 ?k2_239 ?k3_239 ?k4_239 ?_; (case k1_239 => exact rfl); (case k4_239 => k_asm); (case k3_239 => k_asm); (case k2_239 => k_mem)); k_whole; intro h'z tk'z F'z N'z; (try dsimp only); (try k_fold)) | fin_once hold walk1 | fail); (try k_steps)))); (all_goals (try ((with_reducible refine unheld ?_); (first | (refine' con_use2 ?k1_240 ?k2_240 ?k3_240 ?k4_240 ?k5_240 ?kK_240 ?kd_240 ?ku_240 ?q1_240 ?q2_240 (c_ctx1 ?e0_240 ?b1_240 ?s1_240 ?l1_240 ?l2_240 ?a3_240 ?b2_240 ?a4_240 ?a5_240 ?a6_240 ?a7_240 ?m1_240 ?n1_240 ?n2_240 ?a8_240 ?e9_240 ?a10_240 ?e11_240 ?l4_240 ?b3_240 ?b4_240) ?_; (case k1_240 => k_asm); (case k2_240 => k_asm); (case k3_240 => k_asm); (case k4_240 => k_asm); (case k5_240 => k_asm); (case kK_240 => first | exact rfl | assumption); (case e0_240 => assumption); (case e9_240 => assumption); (case e11_240 => assumption); (case q1_240 => (walk_at "PICK")); (case q2_240 => (walk_at "PICK")); (case b1_240 => (walk_at "BUND")); (case s1_240 => walk_at "SCENE"); (case l1_240 => omega); (case l2_240 => omega); (case a3_240 => assumption); (case b2_240 => (walk_at "BUND")); (case a4_240 => assumption); (case a5_240 => assumption); (case a6_240 => assumption); (case a7_240 => assumption); (case m1_240 => k_mem); (case n1_240 => k_all); (case n2_240 => k_all); (case a8_240 => assumption); (case a10_240 => assumption); (case l4_240 => omega); (case b3_240 => (walk_at "BUND")); (case b4_240 => (walk_at "BUND")); (case kd_240 => ktr_room); (case ku_240 => ktr_units); k_whole;  intro o9z g9z t9z tn9z u9z w9z h9z tk9z F9z N9z; (try dsimp only); (try k_fold)) | ((with_reducible show wpAny _ _ (pyIter (Value.ref _)) (fun it s₂ => LoopAtV _ _ _ _ _ _ _ _ _ it s₂) _ _); k_dflt (refine' iter_ret1 ?k1_241 ?k2_241 ?k3_241 ?k4_241 ?_; (case k1_241 => exact rfl); (case k4_241 => k_asm); (case k3_241 => k_asm); (case k2_241 => k_mem)); k_whole; intro h'z tk'z F'z N'z; (try dsimp only); (try k_fold)) | fin_once hold walk1 | fail); (try k_steps)))); (all_goals (try ((with_reducible refine unheld ?_); (first | (refine' con_use2 ?k1_242 ?k2_242 ?k3_242 ?k4_242 ?k5_242 ?kK_242 ?kd_242 ?ku_242 ?q1_242 ?q2_242 (c_ctx1 ?e0_242 ?b1_242 ?s1_242 ?l1_242 ?l2_242 ?a3_242 ?b2_242 ?a4_242 ?a5_242 ?a6_242 ?a7_242 ?m1_242 ?n1_242 ?n2_242 ?a8_242 ?e9_242 ?a10_242 ?e11_242 ?l4_242 ?b3_242 ?b4_242) ?_; (case k1_242 => k_asm); (case k2_242 => k_asm); (case k3_242 => k_asm); (case k4_242 => k_asm); (case k5_242 => k_asm); (case kK_242 => first | exact rfl | assumption); (case e0_242 => assumption); (case e9_242 => assumption); (case e11_242 => assumption); (case q1_242 => (walk_at "PICK")); (case q2_242 => (walk_at "PICK")); (case b1_242 => (walk_at "BUND")); (case s1_242 => walk_at "SCENE"); (case l1_242 => omega); (case l2_242 => omega); (case a3_242 => assumption); (case b2_242 => (walk_at "BUND")); (case a4_242 => assumption); (case a5_242 => assumption); (case a6_242 => assumption); (case a7_242 => assumption); (case m1_242 => k_mem); (case n1_242 => k_all); (case n2_242 => k_all); (case a8_242 => assumption); (case a10_242 => assumption); (case l4_242 => omega); (case b3_242 => (walk_at "BUND")); (case b4_242 => (walk_at "BUND")); (case kd_242 => ktr_room); (case ku_242 => ktr_units); k_whole;  intro o9z g9z t9z tn9z u9z w9z h9z tk9z F9z N9z; (try dsimp only); (try k_fold)) | ((with_reducible show wpAny _ _ (pyIter (Value.ref _)) (fun it s₂ => LoopAtV _ _ _ _ _ _ _ _ _ it s₂) _ _); k_dflt (refine' iter_ret1 ?k1_243 ?k2_243 ?k3_243 ?k4_243 ?_; (case k1_243 => exact rfl); (case k4_243 => k_asm); (case k3_243 => k_asm); (case k2_243 => k_mem)); k_whole; intro h'z tk'z F'z N'z; (try dsimp only); (try k_fold)) | fin_once hold walk1 | fail); (try k_steps)))); (all_goals (try ((with_reducible refine unheld ?_); (first | (refine' con_use2 ?k1_244 ?k2_244 ?k3_244 ?k4_244 ?k5_244 ?kK_244 ?kd_244 ?ku_244 ?q1_244 ?q2_244 (c_ctx1 ?e0_244 ?b1_244 ?s1_244 ?l1_244 ?l2_244 ?a3_244 ?b2_244 ?a4_244 ?a5_244 ?a6_244 ?a7_244 ?m1_244 ?n1_244 ?n2_244 ?a8_244 ?e9_244 ?a10_244 ?e11_244 ?l4_244 ?b3_244 ?b4_244) ?_; (case k1_244 => k_asm); (case k2_244 => k_asm); (case k3_244 => k_asm); (case k4_244 => k_asm); (case k5_244 => k_asm); (case kK_244 => first | exact rfl | assumption); (case e0_244 => assumption); (case e9_244 => assumption); (case e11_244 => assumption); (case q1_244 => (walk_at "PICK")); (case q2_244 => (walk_at "PICK")); (case b1_244 => (walk_at "BUND")); (case s1_244 => walk_at "SCENE"); (case l1_244 => omega); (case l2_244 => omega); (case a3_244 => assumption); (case b2_244 => (walk_at "BUND")); (case a4_244 => assumption); (case a5_244 => assumption); (case a6_244 => assumption); (case a7_244 => assumption); (case m1_244 => k_mem); (case n1_244 => k_all); (case n2_244 => k_all); (case a8_244 => assumption); (case a10_244 => assumption); (case l4_244 => omega); (case b3_244 => (walk_at "BUND")); (case b4_244 => (walk_at "BUND")); (case kd_244 => ktr_room); (case ku_244 => ktr_units); k_whole;  intro o9z g9z t9z tn9z u9z w9z h9z tk9z F9z N9z; (try dsimp only); (try k_fold)) | ((with_reducible show wpAny _ _ (pyIter (Value.ref _)) (fun it s₂ => LoopAtV _ _ _ _ _ _ _ _ _ it s₂) _ _); k_dflt (refine' iter_ret1 ?k1_245 ?k2_245 ?k3_245 ?k4_245 ?_; (case k1_245 => exact rfl); (case k4_245 => k_asm); (case k3_245 => k_asm); (case k2_245 => k_mem)); k_whole; intro h'z tk'z F'z N'z; (try dsimp only); (try k_fold)) | fin_once hold walk1 | fail); (try k_steps)))))
  refine' hret _ _ _ _ ?zi ?ze _ _ (by k_asm) (cb_drop (by assumption) ?zd)
  case zd => walk_at "SUB"
  case zi => assumption
  case ze => assumption
end
def HL (F : St → St) (goal : Int) : St → St := if goal = 3 then leaf else F
theorem HL_3 (F : St → St) : HL F 3 = leaf := if_pos rfl
theorem HL_ne {F : St → St} {g : Int} (h : g ≠ 3) : HL F g = F := if_neg h
theorem HL_ok {F : St → St} (hF : FOk F) (g : Int) : FOk (HL F g) := by
  unfold HL
  split
  · exact leaf_ok
  · exact hF
def F2 (r2 : List Int) : St → St := acts (HL leaf) r2
def F1 (r1 r2 : List Int) : St → St := acts (HL (F2 r2)) r1
def F0 (r0 r1 r2 : List Int) : St → St := acts (HL (F1 r1 r2)) r0
theorem F2_ok (r2 : List Int) : FOk (F2 r2) := acts_fok fun g _ => HL_ok leaf_ok g
theorem F1_ok (r1 r2 : List Int) : FOk (F1 r1 r2) := acts_fok fun g _ => HL_ok (F2_ok r2) g
theorem F0_ok (r0 r1 r2 : List Int) (k : Int) (h0 : 0 ≤ k) (h : k ≤ 0) : Ok (F0 r0 r1 r2 (0, k)) := acts_ok (fun g _ => HL_ok (F1_ok r1 r2) g) ⟨h0, h, by show (0 : Int) ≤ 256; omega⟩
theorem sub_two {w : World} {mean : ExcName → Option Value} {mg mb : Str → Option Value} {lks k0 k1 k2 k3 : Addr} {r0 r1 r2 : List Int} (h2 : ∀ g ∈ r2, g = 3) : SubC w mean mg mb lks k0 k1 k2 k3 r0 r1 r2 k2 (F2 r2) 5 60 840 :=
  sub_chain (D := 6) (dn := 20) (cn := 360) (H := HL leaf) (row' := r2)
    (fun g hg => ⟨k3, by rw [h2 g hg]; decide, by rw [h2 g hg]; decide, by rw [h2 g hg]; rfl, by rw [h2 g hg, HL_3]; exact sub_single 6, HL_ok leaf_ok g⟩)
    (fun l h => h.2.2.2.1) (by decide)
theorem sub_one {w : World} {mean : ExcName → Option Value} {mg mb : Str → Option Value} {lks k0 k1 k2 k3 : Addr} {r0 r1 r2 : List Int} (h1 : ∀ g ∈ r1, g = 2 ∨ g = 3) (h2 : ∀ g ∈ r2, g = 3) : SubC w mean mg mb lks k0 k1 k2 k3 r0 r1 r2 k1 (F1 r1 r2) 4 100 1320 :=
  sub_chain (D := 5) (dn := 60) (cn := 840) (H := HL (F2 r2)) (row' := r1)
    (fun g hg => by
      rcases h1 g hg with e | e
      · subst e
        exact ⟨k2, by decide, by decide, rfl, by rw [HL_ne (by decide)]; exact sub_two h2, HL_ok (F2_ok r2) 2⟩
      · subst e
        exact ⟨k3, by decide, by decide, rfl, by rw [HL_3]; exact (sub_single 6).weak (by decide) (by decide) (by decide), HL_ok (F2_ok r2) 3⟩)
    (fun l h => h.2.2.1) (by decide)
theorem top_H {w : World} {mean : ExcName → Option Value} {mg mb : Str → Option Value} {lks k0 k1 k2 k3 : Addr} {r0 r1 r2 : List Int} (h0 : ∀ g ∈ r0, g = 1 ∨ g = 3) (h1 : ∀ g ∈ r1, g = 2 ∨ g = 3) (h2 : ∀ g ∈ r2, g = 3) :
    ∀ goal ∈ r0, ∃ lj, 0 ≤ goal ∧ goal < 4 ∧ [Value.ref k0, .ref k1, .ref k2, .ref k3][goal.toNat]? = some (.ref lj) ∧ SubC w mean mg mb lks k0 k1 k2 k3 r0 r1 r2 lj (HL (F1 r1 r2) goal) 4 100 1320 ∧ FOk (HL (F1 r1 r2) goal) :=
  fun g hg => by
    rcases h0 g hg with e | e
    · subst e
      exact ⟨k1, by decide, by decide, rfl, by rw [HL_ne (by decide)]; exact sub_one h1 h2, HL_ok (F1_ok r1 r2) 1⟩
    · subst e
      exact ⟨k3, by decide, by decide, rfl, by rw [HL_3]; exact (sub_single 6).weak (by decide) (by decide) (by decide), HL_ok (F1_ok r1 r2) 3⟩
section
local macro_rules | `(tactic| walk_at "pyIter ref") => `(tactic| walk_at "HOLD")
local macro_rules | `(tactic| walk_at "call ref") => `(tactic| walk_at "HOLD")
set_option maxHeartbeats 2000000 in
theorem sub_top {w : World} {mean : ExcName → Option Value} {mg mb : Str → Option Value} {lks k0 k1 k2 k3 lk : Addr} {r0 r1 r2 row' : List Int} {H : Int → St → St} {D : Int} {dn cn : Nat} (hH : ∀ goal ∈ row', ∃ lj, 0 ≤ goal ∧ goal < 4 ∧ [Value.ref k0, .ref k1, .ref k2, .ref k3][goal.toNat]? = some (.ref lj) ∧ SubC w mean mg mb lks k0 k1 k2 k3 r0 r1 r2 lj (H goal) D dn cn ∧ FOk (H goal))
    {rest : Led} {sc b gd S row inf G : Addr} {d at' n k g : Int} {vs : List Value} {oG : Obj} {c : Nat} {tn ta : Tok}
    (hall : AllIn w rest lks k0 k1 k2 k3 r0 r1 r2) (hlk : ChainLk w rest lk row') (hs : SceneIn w rest sc b gd lks lk S d) (hd0 : 0 ≤ d) (hdD : d + 1 ≤ D) (hD6 : D ≤ 6) (hb : BufIn w rest b row vs) (h0 : 0 ≤ at') (h1 : at' < vs.length) (h2 : vs.length ≤ 100) (hx : vs[at'.toNat]? = some (.ref inf)) (hi : (inf, instObj 142 G) ∈ rest)
    (hS : ∀ p ∈ rest, p.1 ≠ S) (hG : ∀ p ∈ rest, p.1 ≠ G) (hSG : S ≠ G) (hD : InfD w oG g) (hgk : g = 10 + k) (hok : Ok (0, k)) (hd1 : d = 0) :
    Con w mean mg mb 653 (dn + 40) (cn + 480) [.ref sc, .int at' ta] ((S, listOf #[.int n tn] c) :: (G, oG) :: rest)
      (fun kq => ∀ t o' g' tn', InfD w o' g' → g' = 10 + (acts H row' (0, k)).2 → kq (.int (at' + 1) t) ((S, listOf #[.int (acts H row' (0, k)).1 tn'] c) :: (G, o') :: rest)) := by
  obtain ⟨tb, act, hLK, ht, hA⟩ := hlk
  refine hLK.elim fun ld tl lc TL v9 l1 l2 l3 => ?_
  have hs2 := hs
  refine hs2.elim fun sd TS s1 s2 => ?_
  unfold Con
  have hfill : (PySem.Challenge.rw_pf0148_01, hd.heap_39) = (PySem.Challenge.rw_pf0148_01, hd.heap_39) := rfl
  intro dp un gd nm cs a ccd cl outer A₀ base h₀ L m s Q E B F X N T hk hdp hun hret
  revert hfill
  k_fill
  intro hfill; clear hfill
  have hMk := kstMark
  k_with_none
  refine wpAny_call ?_
  k_dflt ktr_enter
  (k_steps; (all_goals (try ((with_reducible refine unheld ?_); (first | (refine' con_use2 ?k1_246 ?k2_246 ?k3_246 ?k4_246 ?k5_246 ?kK_246 ?kd_246 ?ku_246 ?q1_246 ?q2_246 (c_ctx0 ?e0_246 ?b1_246 ?s1_246 ?l1_246 ?l2_246 ?a3_246 ?b2_246 ?a4_246 ?a5_246 ?a6_246 ?a7_246 ?m1_246 ?n1_246 ?n2_246 ?a8_246 ?e9_246 ?a10_246 ?e11_246 ?l4_246 ?b3_246 ?b4_246) ?_; (case k1_246 => k_asm); (case k2_246 => k_asm); (case k3_246 => k_asm); (case k4_246 => k_asm); (case k5_246 => k_asm); (case kK_246 => first | exact rfl | assumption); (case e0_246 => assumption); (case e9_246 => assumption); (case e11_246 => assumption); (case q1_246 => (walk_at "PICK")); (case q2_246 => (walk_at "PICK")); (case b1_246 => (walk_at "BUND")); (case s1_246 => walk_at "SCENE"); (case l1_246 => omega); (case l2_246 => omega); (case a3_246 => assumption); (case b2_246 => (walk_at "BUND")); (case a4_246 => assumption); (case a5_246 => assumption); (case a6_246 => assumption); (case a7_246 => assumption); (case m1_246 => k_mem); (case n1_246 => k_all); (case n2_246 => k_all); (case a8_246 => assumption); (case a10_246 => assumption); (case l4_246 => omega); (case b3_246 => (walk_at "BUND")); (case b4_246 => (walk_at "BUND")); (case kd_246 => ktr_room); (case ku_246 => ktr_units); k_whole;  intro o9z g9z t9z tn9z u9z w9z h9z tk9z F9z N9z; (try dsimp only); (try k_fold)) | ((with_reducible show wpAny _ _ (pyIter (Value.ref _)) (fun it s₂ => LoopAtV _ _ _ _ _ _ _ _ _ it s₂) _ _); k_dflt (refine' iter_ret1 ?k1_247 ?k2_247 ?k3_247 ?k4_247 ?_; (case k1_247 => exact rfl); (case k4_247 => k_asm); (case k3_247 => k_asm); (case k2_247 => k_mem)); k_whole; intro h'z tk'z F'z N'z; (try dsimp only); (try k_fold)) | fin_once hold walk1 | fail); (try k_steps)))); (all_goals (try ((with_reducible refine unheld ?_); (first | (refine' con_use2 ?k1_248 ?k2_248 ?k3_248 ?k4_248 ?k5_248 ?kK_248 ?kd_248 ?ku_248 ?q1_248 ?q2_248 (c_ctx0 ?e0_248 ?b1_248 ?s1_248 ?l1_248 ?l2_248 ?a3_248 ?b2_248 ?a4_248 ?a5_248 ?a6_248 ?a7_248 ?m1_248 ?n1_248 ?n2_248 ?a8_248 ?e9_248 ?a10_248 ?e11_248 ?l4_248 ?b3_248 ?b4_248) ?_; (case k1_248 => k_asm); (case k2_248 => k_asm); (case k3_248 => k_asm); (case k4_248 => k_asm); (case k5_248 => k_asm); (case kK_248 => first | exact rfl | assumption); (case e0_248 => assumption); (case e9_248 => assumption); (case e11_248 => assumption); (case q1_248 => (walk_at "PICK")); (case q2_248 => (walk_at "PICK")); (case b1_248 => (walk_at "BUND")); (case s1_248 => walk_at "SCENE"); (case l1_248 => omega); (case l2_248 => omega); (case a3_248 => assumption); (case b2_248 => (walk_at "BUND")); (case a4_248 => assumption); (case a5_248 => assumption); (case a6_248 => assumption); (case a7_248 => assumption); (case m1_248 => k_mem); (case n1_248 => k_all); (case n2_248 => k_all); (case a8_248 => assumption); (case a10_248 => assumption); (case l4_248 => omega); (case b3_248 => (walk_at "BUND")); (case b4_248 => (walk_at "BUND")); (case kd_248 => ktr_room); (case ku_248 => ktr_units); k_whole;  intro o9z g9z t9z tn9z u9z w9z h9z tk9z F9z N9z; (try dsimp only); (try k_fold)) | ((with_reducible show wpAny _ _ (pyIter (Value.ref _)) (fun it s₂ => LoopAtV _ _ _ _ _ _ _ _ _ it s₂) _ _); k_dflt (refine' iter_ret1 ?k1_249 ?k2_249 ?k3_249 ?k4_249 ?_; (case k1_249 => exact rfl); (case k4_249 => k_asm); (case k3_249 => k_asm); (case k2_249 => k_mem)); k_whole; intro h'z tk'z F'z N'z; (try dsimp only); (try k_fold)) | fin_once hold walk1 | fail); (try k_steps)))); (all_goals (try ((with_reducible refine unheld ?_); (first | (refine' con_use2 ?k1_250 ?k2_250 ?k3_250 ?k4_250 ?k5_250 ?kK_250 ?kd_250 ?ku_250 ?q1_250 ?q2_250 (c_ctx0 ?e0_250 ?b1_250 ?s1_250 ?l1_250 ?l2_250 ?a3_250 ?b2_250 ?a4_250 ?a5_250 ?a6_250 ?a7_250 ?m1_250 ?n1_250 ?n2_250 ?a8_250 ?e9_250 ?a10_250 ?e11_250 ?l4_250 ?b3_250 ?b4_250) ?_; (case k1_250 => k_asm); (case k2_250 => k_asm); (case k3_250 => k_asm); (case k4_250 => k_asm); (case k5_250 => k_asm); (case kK_250 => first | exact rfl | assumption); (case e0_250 => assumption); (case e9_250 => assumption); (case e11_250 => assumption); (case q1_250 => (walk_at "PICK")); (case q2_250 => (walk_at "PICK")); (case b1_250 => (walk_at "BUND")); (case s1_250 => walk_at "SCENE"); (case l1_250 => omega); (case l2_250 => omega); (case a3_250 => assumption); (case b2_250 => (walk_at "BUND")); (case a4_250 => assumption); (case a5_250 => assumption); (case a6_250 => assumption); (case a7_250 => assumption); (case m1_250 => k_mem); (case n1_250 => k_all); (case n2_250 => k_all); (case a8_250 => assumption); (case a10_250 => assumption); (case l4_250 => omega); (case b3_250 => (walk_at "BUND")); (case b4_250 => (walk_at "BUND")); (case kd_250 => ktr_room); (case ku_250 => ktr_units); k_whole;  intro o9z g9z t9z tn9z u9z w9z h9z tk9z F9z N9z; (try dsimp only); (try k_fold)) | ((with_reducible show wpAny _ _ (pyIter (Value.ref _)) (fun it s₂ => LoopAtV _ _ _ _ _ _ _ _ _ it s₂) _ _); k_dflt (refine' iter_ret1 ?k1_251 ?k2_251 ?k3_251 ?k4_251 ?_; (case k1_251 => exact rfl); (case k4_251 => k_asm); (case k3_251 => k_asm); (case k2_251 => k_mem)); k_whole; intro h'z tk'z F'z N'z; (try dsimp only); (try k_fold)) | fin_once hold walk1 | fail); (try k_steps)))); (all_goals (try ((with_reducible refine unheld ?_); (first | (refine' con_use2 ?k1_252 ?k2_252 ?k3_252 ?k4_252 ?k5_252 ?kK_252 ?kd_252 ?ku_252 ?q1_252 ?q2_252 (c_ctx0 ?e0_252 ?b1_252 ?s1_252 ?l1_252 ?l2_252 ?a3_252 ?b2_252 ?a4_252 ?a5_252 ?a6_252 ?a7_252 ?m1_252 ?n1_252 ?n2_252 ?a8_252 ?e9_252 ?a10_252 ?e11_252 ?l4_252 ?b3_252 ?b4_252) ?_; (case k1_252 => k_asm); (case k2_252 => k_asm); (case k3_252 => k_asm); (case k4_252 => k_asm); (case k5_252 => k_asm); (case kK_252 => first | exact rfl | assumption); (case e0_252 => assumption); (case e9_252 => assumption); (case e11_252 => assumption); (case q1_252 => (walk_at "PICK")); (case q2_252 => (walk_at "PICK")); (case b1_252 => (walk_at "BUND")); (case s1_252 => walk_at "SCENE"); (case l1_252 => omega); (case l2_252 => omega); (case a3_252 => assumption); (case b2_252 => (walk_at "BUND")); (case a4_252 => assumption); (case a5_252 => assumption); (case a6_252 => assumption); (case a7_252 => assumption); (case m1_252 => k_mem); (case n1_252 => k_all); (case n2_252 => k_all); (case a8_252 => assumption); (case a10_252 => assumption); (case l4_252 => omega); (case b3_252 => (walk_at "BUND")); (case b4_252 => (walk_at "BUND")); (case kd_252 => ktr_room); (case ku_252 => ktr_units); k_whole;  intro o9z g9z t9z tn9z u9z w9z h9z tk9z F9z N9z; (try dsimp only); (try k_fold)) | ((with_reducible show wpAny _ _ (pyIter (Value.ref _)) (fun it s₂ => LoopAtV _ _ _ _ _ _ _ _ _ it s₂) _ _); k_dflt (refine' iter_ret1 ?k1_253 ?k2_253 ?k3_253 ?k4_253 ?_; (case k1_253 => exact rfl); (case k4_253 => k_asm); (case k3_253 => k_asm); (case k2_253 => k_mem)); k_whole; intro h'z tk'z F'z N'z; (try dsimp only); (try k_fold)) | fin_once hold walk1 | fail); (try k_steps)))))
  refine' hret _ _ _ _ ?zi ?ze _ _ (by k_asm) (cb_drop (by assumption) ?zd)
  case zd => walk_at "SUB"
  case zi => assumption
  case ze => assumption
end
abbrev gdO (w : World) (cl : Addr) (T : Nat → Tok) (V : Nat → Value) : Obj := dictOf [⟨PyData.keyHash w.params (PySem.Str.ofString "classes"), .str (PySem.Str.ofString "classes") (T 1), .ref cl⟩, ⟨PyData.keyHash w.params (PySem.Str.ofString "attach"), .str (PySem.Str.ofString "attach") (T 2), (V 2)⟩, ⟨PyData.keyHash w.params (PySem.Str.ofString "sets"), .str (PySem.Str.ofString "sets") (T 3), (V 3)⟩, ⟨PyData.keyHash w.params (PySem.Str.ofString "points"), .str (PySem.Str.ofString "points") (T 4), (V 4)⟩, ⟨PyData.keyHash w.params (PySem.Str.ofString "carets"), .str (PySem.Str.ofString "carets") (T 5), (V 5)⟩] 5
def GdefIn (w : World) (l : Led) (gd : Addr) : Prop := ∃ (dd cl : Addr) (T : Nat → Tok) (V : Nat → Value), (gd, instObj 765 dd) ∈ l ∧ (dd, gdO w cl T V) ∈ l ∧ NoneIn w l cl
theorem GdefIn.elim {w : World} {l : Led} {gd : Addr} {P : Prop} (h : GdefIn w l gd) (k : ∀ dd cl (T : Nat → Tok) (V : Nat → Value), (gd, instObj 765 dd) ∈ l → (dd, gdO w cl T V) ∈ l → NoneIn w l cl → P) : P := by
  obtain ⟨a1, a2, a3, a4, h1, h2, h3⟩ := h
  exact k a1 a2 a3 a4 h1 h2 h3
theorem GdefIn.mono {w : World} {l l' : Led} {gd : Addr} (h : GdefIn w l gd) (s : ∀ p ∈ l, p ∈ l') : GdefIn w l' gd := h.elim fun _ _ T V h1 h2 h3 => ⟨_, _, T, V, s _ h1, s _ h2, h3.mono s⟩
local macro_rules | `(tactic| walk_at "BM") => `(tactic| ((with_reducible refine GdefIn.mono (by with_reducible assumption) ?_); walk_at "SUB"))
section
local macro_rules | `(tactic| walk_at "call ref") => `(tactic| walk_at "HOLD")
local macro_rules | `(tactic| walk_at "DUMMY") => `(tactic| fail "dummy")
set_option maxHeartbeats 2000000 in
theorem c_takes {w : World} {mean : ExcName → Option Value} {mg mb : Str → Option Value} {rest : Led} {sc b gd lks lk S row inf G tb : Addr} {d at' g : Int} {vs : List Value} {oG : Obj} {ta : Tok} {kind : String}
    (hs : SceneIn w rest sc b gd lks lk S d) (hb : BufIn w rest b row vs) (hg : GdefIn w rest gd) (hl : LkIn w rest lk tb kind) (h0 : 0 ≤ at') (h1 : at' < vs.length) (h2 : vs.length ≤ 100) (hx : vs[at'.toNat]? = some (.ref inf)) (hi : (inf, instObj 142 G) ∈ rest) (hG : (G, oG) ∈ rest) (hD : InfD w oG g) :
    Con w mean mg mb 104 30 400 [.ref sc, .int at' ta] rest (fun kq => kq (.bool true) rest) := by
  refine hl.elim fun ld tl lc TL v9 l1 l2 l3 => ?_
  refine hg.elim fun dd cl' TG VG d1 d2 d3 => ?_
  have d4 := d3
  refine d4.elim fun nd nc no9 nt f1 f2 f3 f4 f5 => ?_
  refine hb.elim fun bd bc TB VB b1 b2 b3 => ?_
  refine hs.elim fun sd TS s1 s2 => ?_
  obtain ⟨tg9, tm9, TI, VI, rfl⟩ := hD
  unfold Con
  have hfill : (PySem.Challenge.rw_pf0148_01, hd.heap_39) = (PySem.Challenge.rw_pf0148_01, hd.heap_39) := rfl
  intro dp un gd nm cs a ccd cl outer A₀ base h₀ L m s Q E B F X N T hk hdp hun hret
  revert hfill
  k_fill
  intro hfill; clear hfill
  have hMk := kstMark
  k_with_none
  refine wpAny_call ?_
  k_dflt ktr_enter
  (k_steps; (all_goals (try ((with_reducible refine unheld ?_); (first | (refine' con_use ?k1_254 ?k2_254 ?k3_254 ?k4_254 ?k5_254 ?kK_254 ?kd_254 ?ku_254 (c_cls _ _ _ _ _ _ _ _ ?b1_254) ?_; (case k1_254 => k_asm); (case k2_254 => k_asm); (case k3_254 => k_asm); (case k4_254 => k_asm); (case k5_254 => k_asm); (case kK_254 => first | exact rfl | assumption); (case b1_254 => (walk_at "BUND")); (case kd_254 => ktr_room); (case ku_254 => ktr_units); k_whole;  intro t9z h9z tk9z F9z N9z; (try dsimp only); (try k_fold)) | fin_once hold walk1 | fail); (try k_steps)))); (all_goals (try ((with_reducible refine unheld ?_); (first | (refine' con_use ?k1_255 ?k2_255 ?k3_255 ?k4_255 ?k5_255 ?kK_255 ?kd_255 ?ku_255 (c_cls _ _ _ _ _ _ _ _ ?b1_255) ?_; (case k1_255 => k_asm); (case k2_255 => k_asm); (case k3_255 => k_asm); (case k4_255 => k_asm); (case k5_255 => k_asm); (case kK_255 => first | exact rfl | assumption); (case b1_255 => (walk_at "BUND")); (case kd_255 => ktr_room); (case ku_255 => ktr_units); k_whole;  intro t9z h9z tk9z F9z N9z; (try dsimp only); (try k_fold)) | fin_once hold walk1 | fail); (try k_steps)))); (all_goals (try ((with_reducible refine unheld ?_); (first | (refine' con_use ?k1_256 ?k2_256 ?k3_256 ?k4_256 ?k5_256 ?kK_256 ?kd_256 ?ku_256 (c_cls _ _ _ _ _ _ _ _ ?b1_256) ?_; (case k1_256 => k_asm); (case k2_256 => k_asm); (case k3_256 => k_asm); (case k4_256 => k_asm); (case k5_256 => k_asm); (case kK_256 => first | exact rfl | assumption); (case b1_256 => (walk_at "BUND")); (case kd_256 => ktr_room); (case ku_256 => ktr_units); k_whole;  intro t9z h9z tk9z F9z N9z; (try dsimp only); (try k_fold)) | fin_once hold walk1 | fail); (try k_steps)))); (all_goals (try ((with_reducible refine unheld ?_); (first | (refine' con_use ?k1_257 ?k2_257 ?k3_257 ?k4_257 ?k5_257 ?kK_257 ?kd_257 ?ku_257 (c_cls _ _ _ _ _ _ _ _ ?b1_257) ?_; (case k1_257 => k_asm); (case k2_257 => k_asm); (case k3_257 => k_asm); (case k4_257 => k_asm); (case k5_257 => k_asm); (case kK_257 => first | exact rfl | assumption); (case b1_257 => (walk_at "BUND")); (case kd_257 => ktr_room); (case ku_257 => ktr_units); k_whole;  intro t9z h9z tk9z F9z N9z; (try dsimp only); (try k_fold)) | fin_once hold walk1 | fail); (try k_steps)))); (all_goals (try ((with_reducible refine unheld ?_); (first | (refine' con_use ?k1_258 ?k2_258 ?k3_258 ?k4_258 ?k5_258 ?kK_258 ?kd_258 ?ku_258 (c_cls _ _ _ _ _ _ _ _ ?b1_258) ?_; (case k1_258 => k_asm); (case k2_258 => k_asm); (case k3_258 => k_asm); (case k4_258 => k_asm); (case k5_258 => k_asm); (case kK_258 => first | exact rfl | assumption); (case b1_258 => (walk_at "BUND")); (case kd_258 => ktr_room); (case ku_258 => ktr_units); k_whole;  intro t9z h9z tk9z F9z N9z; (try dsimp only); (try k_fold)) | fin_once hold walk1 | fail); (try k_steps)))); (all_goals (try ((with_reducible refine unheld ?_); (first | (refine' con_use ?k1_259 ?k2_259 ?k3_259 ?k4_259 ?k5_259 ?kK_259 ?kd_259 ?ku_259 (c_cls _ _ _ _ _ _ _ _ ?b1_259) ?_; (case k1_259 => k_asm); (case k2_259 => k_asm); (case k3_259 => k_asm); (case k4_259 => k_asm); (case k5_259 => k_asm); (case kK_259 => first | exact rfl | assumption); (case b1_259 => (walk_at "BUND")); (case kd_259 => ktr_room); (case ku_259 => ktr_units); k_whole;  intro t9z h9z tk9z F9z N9z; (try dsimp only); (try k_fold)) | fin_once hold walk1 | fail); (try k_steps)))))
  exact hret _ _ (by k_asm) (cb_drop (by assumption) (by walk_at "SUB"))
end
section
local macro_rules | `(tactic| walk_at "pyIter ref") => `(tactic| walk_at "HOLD")
local macro_rules | `(tactic| walk_at "call ref") => `(tactic| walk_at "HOLD")
local macro_rules | `(tactic| walk_at "DUMMY") => `(tactic| fail "dummy")
set_option maxHeartbeats 2000000 in
theorem c_ctxN {w : World} {mean : ExcName → Option Value} {mg mb : Str → Option Value}
    {rest : Led} {sc b gd lks lk S row inf G tb act : Addr} {d at' n g : Int} {vs : List Value} {oG : Obj} {c : Nat} {tn ta : Tok}
    (hs : SceneIn w rest sc b gd lks lk S d) (hb : BufIn w rest b row vs) (h0 : 0 ≤ at') (h1 : at' < vs.length) (h2 : vs.length ≤ 100) (hx : vs[at'.toNat]? = some (.ref inf)) (hi : (inf, instObj 142 G) ∈ rest)
    (hG : (G, oG) ∈ rest) (hS : ∀ p ∈ rest, p.1 ≠ S) (hD : InfD w oG g) (hgk : g < 10) (hd1 : d = 0)
    (ht : TabIn w rest tb act) :
    Con w mean mg mb 578 30 440 [.ref sc, .ref tb, .int at' ta, .ref 653] ((S, listOf #[.int n tn] c) :: rest)
      (fun kq => ∀ t tn', kq (.int (-1) t) ((S, listOf #[.int 0 tn'] c) :: rest)) := by
  have hs2 := hs
  have hb2 := hb
  refine hb2.elim fun bd bc TB VB b1 b2 b3 => ?_
  refine hs2.elim fun sd TS s1 s2 => ?_
  obtain ⟨tg9, tm9, TI, VI, rfl⟩ := hD
  unfold Con
  have hfill : (PySem.Challenge.rw_pf0148_01, hd.heap_39) = (PySem.Challenge.rw_pf0148_01, hd.heap_39) := rfl
  intro dp un gd nm cs a ccd cl outer A₀ base h₀ L m s Q E B F X N T hk hdp hun hret
  revert hfill
  k_fill
  intro hfill; clear hfill
  have hMk := kstMark
  k_with_none
  refine wpAny_call ?_
  k_dflt ktr_enter
  (k_steps; (all_goals (try ((with_reducible refine unheld ?_); (first | (refine' con_use ?k1_260 ?k2_260 ?k3_260 ?k4_260 ?k5_260 ?kK_260 ?kd_260 ?ku_260 (c_rules0 _ _ _ _ _ _ _ _ _ ?b1_260 ?l1_260) ?_; (case k1_260 => k_asm); (case k2_260 => k_asm); (case k3_260 => k_asm); (case k4_260 => k_asm); (case k5_260 => k_asm); (case kK_260 => first | exact rfl | assumption); (case b1_260 => (walk_at "BUND")); (case l1_260 => omega); (case kd_260 => ktr_room); (case ku_260 => ktr_units); k_whole;  intro R9z x1z h9z tk9z F9z N9z; (try dsimp only); (try k_fold)) | ((with_reducible show wpAny _ _ (pyIter (Value.ref _)) (fun it s₂ => LoopAtV _ _ _ _ _ _ _ _ _ it s₂) _ _); k_dflt (refine' iter_ret1 ?k1_261 ?k2_261 ?k3_261 ?k4_261 ?_; (case k1_261 => exact rfl); (case k4_261 => k_asm); (case k3_261 => k_asm); (case k2_261 => k_mem)); k_whole; intro h'z tk'z F'z N'z; (try dsimp only); (try k_fold)) | ((with_reducible show wpAny _ _ (pyIter (Value.ref _)) (fun it s₂ => LoopAtV _ _ _ _ _ _ _ _ _ it s₂) _ _); k_dflt (refine' iter_nil ?k1_262 ?k2_262 ?k3_262 ?k4_262 ?_; (case k1_262 => exact rfl); (case k4_262 => k_asm); (case k3_262 => k_asm); (case k2_262 => k_mem)); k_whole; intro h'z tk'z F'z N'z; (try dsimp only); (try k_fold)) | fin_once hold walk1 | fail); (try k_steps)))); (all_goals (try ((with_reducible refine unheld ?_); (first | (refine' con_use ?k1_263 ?k2_263 ?k3_263 ?k4_263 ?k5_263 ?kK_263 ?kd_263 ?ku_263 (c_rules0 _ _ _ _ _ _ _ _ _ ?b1_263 ?l1_263) ?_; (case k1_263 => k_asm); (case k2_263 => k_asm); (case k3_263 => k_asm); (case k4_263 => k_asm); (case k5_263 => k_asm); (case kK_263 => first | exact rfl | assumption); (case b1_263 => (walk_at "BUND")); (case l1_263 => omega); (case kd_263 => ktr_room); (case ku_263 => ktr_units); k_whole;  intro R9z x1z h9z tk9z F9z N9z; (try dsimp only); (try k_fold)) | ((with_reducible show wpAny _ _ (pyIter (Value.ref _)) (fun it s₂ => LoopAtV _ _ _ _ _ _ _ _ _ it s₂) _ _); k_dflt (refine' iter_ret1 ?k1_264 ?k2_264 ?k3_264 ?k4_264 ?_; (case k1_264 => exact rfl); (case k4_264 => k_asm); (case k3_264 => k_asm); (case k2_264 => k_mem)); k_whole; intro h'z tk'z F'z N'z; (try dsimp only); (try k_fold)) | ((with_reducible show wpAny _ _ (pyIter (Value.ref _)) (fun it s₂ => LoopAtV _ _ _ _ _ _ _ _ _ it s₂) _ _); k_dflt (refine' iter_nil ?k1_265 ?k2_265 ?k3_265 ?k4_265 ?_; (case k1_265 => exact rfl); (case k4_265 => k_asm); (case k3_265 => k_asm); (case k2_265 => k_mem)); k_whole; intro h'z tk'z F'z N'z; (try dsimp only); (try k_fold)) | fin_once hold walk1 | fail); (try k_steps)))); (all_goals (try ((with_reducible refine unheld ?_); (first | (refine' con_use ?k1_266 ?k2_266 ?k3_266 ?k4_266 ?k5_266 ?kK_266 ?kd_266 ?ku_266 (c_rules0 _ _ _ _ _ _ _ _ _ ?b1_266 ?l1_266) ?_; (case k1_266 => k_asm); (case k2_266 => k_asm); (case k3_266 => k_asm); (case k4_266 => k_asm); (case k5_266 => k_asm); (case kK_266 => first | exact rfl | assumption); (case b1_266 => (walk_at "BUND")); (case l1_266 => omega); (case kd_266 => ktr_room); (case ku_266 => ktr_units); k_whole;  intro R9z x1z h9z tk9z F9z N9z; (try dsimp only); (try k_fold)) | ((with_reducible show wpAny _ _ (pyIter (Value.ref _)) (fun it s₂ => LoopAtV _ _ _ _ _ _ _ _ _ it s₂) _ _); k_dflt (refine' iter_ret1 ?k1_267 ?k2_267 ?k3_267 ?k4_267 ?_; (case k1_267 => exact rfl); (case k4_267 => k_asm); (case k3_267 => k_asm); (case k2_267 => k_mem)); k_whole; intro h'z tk'z F'z N'z; (try dsimp only); (try k_fold)) | ((with_reducible show wpAny _ _ (pyIter (Value.ref _)) (fun it s₂ => LoopAtV _ _ _ _ _ _ _ _ _ it s₂) _ _); k_dflt (refine' iter_nil ?k1_268 ?k2_268 ?k3_268 ?k4_268 ?_; (case k1_268 => exact rfl); (case k4_268 => k_asm); (case k3_268 => k_asm); (case k2_268 => k_mem)); k_whole; intro h'z tk'z F'z N'z; (try dsimp only); (try k_fold)) | fin_once hold walk1 | fail); (try k_steps)))); (all_goals (try ((with_reducible refine unheld ?_); (first | (refine' con_use ?k1_269 ?k2_269 ?k3_269 ?k4_269 ?k5_269 ?kK_269 ?kd_269 ?ku_269 (c_rules0 _ _ _ _ _ _ _ _ _ ?b1_269 ?l1_269) ?_; (case k1_269 => k_asm); (case k2_269 => k_asm); (case k3_269 => k_asm); (case k4_269 => k_asm); (case k5_269 => k_asm); (case kK_269 => first | exact rfl | assumption); (case b1_269 => (walk_at "BUND")); (case l1_269 => omega); (case kd_269 => ktr_room); (case ku_269 => ktr_units); k_whole;  intro R9z x1z h9z tk9z F9z N9z; (try dsimp only); (try k_fold)) | ((with_reducible show wpAny _ _ (pyIter (Value.ref _)) (fun it s₂ => LoopAtV _ _ _ _ _ _ _ _ _ it s₂) _ _); k_dflt (refine' iter_ret1 ?k1_270 ?k2_270 ?k3_270 ?k4_270 ?_; (case k1_270 => exact rfl); (case k4_270 => k_asm); (case k3_270 => k_asm); (case k2_270 => k_mem)); k_whole; intro h'z tk'z F'z N'z; (try dsimp only); (try k_fold)) | ((with_reducible show wpAny _ _ (pyIter (Value.ref _)) (fun it s₂ => LoopAtV _ _ _ _ _ _ _ _ _ it s₂) _ _); k_dflt (refine' iter_nil ?k1_271 ?k2_271 ?k3_271 ?k4_271 ?_; (case k1_271 => exact rfl); (case k4_271 => k_asm); (case k3_271 => k_asm); (case k2_271 => k_mem)); k_whole; intro h'z tk'z F'z N'z; (try dsimp only); (try k_fold)) | fin_once hold walk1 | fail); (try k_steps)))))
  refine' hret _ _ _ _ (by k_asm) (cb_drop (by assumption) ?zd)
  case zd => walk_at "SUB"
end
section
variable {prog : Program} {w : World} {A : Around} {E : Value → Shared → Prop} {s : Shared} {env : Env} {h₀ : Heap} {x : Str} {body : List Stmt} {Q : Flow → Shared → Prop}
theorem iter_lst {l : Addr} {vs : List Value} {nn : Nat} {m₀ : Str → Option Value} {news : Led} (J : Nat → (Str → Option Value) → Led → Prop)
    (hh : A.handled = none) (hl : (l, listOf vs.toArray nn) ∈ news) (F : Fr h₀ env.locals s.heap m₀) (N : News h₀ env.locals s.heap news) (hj : J 0 m₀ news)
    (turn : ∀ i v m₁ news₁ h tk I oI, vs[i]? = some v → (∀ p ∈ news₁, p.1 ≠ I) → (l, listOf vs.toArray nn) ∈ news₁ → J i m₁ news₁ → Fr h₀ env.locals h (fun y => if y = x then some v else m₁ y) → News h₀ env.locals h ((I, oI) :: news₁) →
      wpAny (model prog w) A (execs body env) (TurnPost h₀ env.locals (fun m' nx => (l, listOf vs.toArray nn) ∈ nx ∧ J (i + 1) m' nx) I oI { s with heap := h, toks := tk } Q) E { s with heap := h, toks := tk })
    (done : ∀ m₁ news₁ h tk, J vs.length m₁ news₁ → Fr h₀ env.locals h m₁ → News h₀ env.locals h news₁ → Q .next { s with heap := h, toks := tk }) :
    wpAny (model prog w) A (pyIter (.ref l)) (fun it s₂ => LoopAtV prog w A h₀ env x body Q E it s₂) E s := by
  have hol : s.heap.get? l = some (listOf vs.toArray nn) := (N _ hl).1
  have hT : s.heap.IsList l vs.toArray := ⟨_, hol, rfl, nn, rfl⟩
  have hne : l ≠ s.heap.objs.size := Nat.ne_of_lt (Heap.lt_size hol)
  have hI0 : h₀.get? s.heap.objs.size = none := next_is_new F
  refine wpAny_pyIter_list hT ?_
  have W := Walks.list (prog := prog) (w := w) hh s.heap.objs.size l hne vs.toArray
  rw [List.size_toArray] at W
  refine ⟨_, _, _, vs.length, _, _, m₀, news, (fun i m nx => (l, listOf vs.toArray nn) ∈ nx ∧ J i m nx), rfl, W, ?_, ?_, ?_, ⟨⟨_, Heap.get?_push_size _ rfl, rfl, rfl⟩, hT.push _⟩, F.push _, (fun p hp => ⟨Heap.get?_push_of_some _ (N p hp).1, (N p hp).2⟩), ⟨hl, hj⟩, ?_, ?_⟩
  · intro hm
    rcases List.mem_cons.mp hm with e | hm
    · exact absurd F.ns.lt (e ▸ Nat.lt_irrefl _)
    · exact (N _ hl).2.1 (List.mem_singleton.mp hm).symm
  · intro b hb
    rw [List.mem_singleton.mp hb]
    exact hI0
  · intro p hp hI
    exact absurd (Heap.lt_size (N p hp).1) ((List.mem_singleton.mp hI) ▸ Nat.lt_irrefl _)
  · rintro i v m₁ news₁ s₁ own ⟨hh', tk', rfl⟩ hin hP ⟨hl₁, hJ⟩ hoff hown hget hfp hst F₁ N₁
    have hP' : vs[i]? = some v := by simpa using hP
    obtain ⟨⟨oI, hoI, _⟩, _⟩ := id hst
    have hoff' : ∀ p ∈ news₁, p.1 ≠ s.heap.objs.size := fun p hp e => hoff p hp (List.mem_singleton.mpr e)
    have hmem := hfp _ (List.mem_cons.mpr (.inl rfl)) hI0 _ hoI
    have N₂ : News h₀ env.locals hh' ((s.heap.objs.size, oI) :: news₁) := fun p hp => by
      rcases List.mem_cons.mp hp with rfl | hp
      · exact N₁ _ (List.mem_append_left _ hmem)
      · exact N₁ _ (List.mem_append_right _ hp)
    have hlo : hh'.get? l = some (listOf vs.toArray nn) := (N₁ _ (List.mem_append_right _ hl₁)).1
    refine wpAny_mono (turn i v m₁ news₁ hh' tk' _ oI hP' hoff' hl₁ hJ F₁ N₂) (fun f s₂ p => ?_) fun _ _ e => e
    have fin : TurnEnd h₀ env.locals (fun m' nx => (l, listOf vs.toArray nn) ∈ nx ∧ J (i + 1) m' nx) s.heap.objs.size oI { s with heap := hh', toks := tk' } s₂ →
        LoopStepU h₀ env.locals [s.heap.objs.size] own (fun m nx => (l, listOf vs.toArray nn) ∈ nx ∧ J (i + 1) m nx) { s with heap := hh', toks := tk' } .next s₂ := by
      rintro ⟨h', tk, m', nx, e, F', N', ho, hl', hm⟩
      refine ⟨rfl, h', tk, m', nx, e, F', fun p hp => ?_, fun p hp hq => ho p hp (List.mem_singleton.mp hq), hl', hm⟩
      rcases List.mem_append.mp hp with h | h
      · have hg : hh'.get? p.1 = some p.2 := hget p h
        rcases List.mem_cons.mp (hown p h) with h2 | h2
        · have : p = (s.heap.objs.size, oI) := Prod.ext h2 (by rw [h2] at hg; exact (Option.some.inj (hg.symm.trans hoI)))
          rw [this]; exact N' _ (.head _)
        · have h3 := List.mem_singleton.mp h2
          have : p = (l, listOf vs.toArray nn) := Prod.ext h3 (by rw [h3] at hg; exact (Option.some.inj (hg.symm.trans hlo)))
          rw [this]; exact N' _ (.tail _ hl')
      · exact N' p (.tail _ h)
    cases f with
    | ret v => exact .ret p
    | brk => exact .brk p
    | next => exact .next (fin p)
    | cont => exact .cont (fin p)
  · rintro h' tk m' news' F' N' _ ⟨_, hJ⟩
    exact done m' news' h' tk hJ F' N'
theorem iter_lstL {l : Addr} {vs : List Value} {nn : Nat} {m₀ : Str → Option Value} {news : Led} (J : Nat → Led → Prop)
    (hh : A.handled = none) (hl : (l, listOf vs.toArray nn) ∈ news) (F : Fr h₀ env.locals s.heap m₀) (N : News h₀ env.locals s.heap news) (hj : J 0 news)
    (turn : ∀ i v news₁ h tk I oI, vs[i]? = some v → (∀ p ∈ news₁, p.1 ≠ I) → (l, listOf vs.toArray nn) ∈ news₁ → J i news₁ → Fr h₀ env.locals h (fun y => if y = x then some v else m₀ y) → News h₀ env.locals h ((I, oI) :: news₁) →
      wpAny (model prog w) A (execs body env) (TurnPost h₀ env.locals (fun m' nx => (l, listOf vs.toArray nn) ∈ nx ∧ J (i + 1) nx ∧ ∀ z, z ≠ x → m' z = m₀ z) I oI { s with heap := h, toks := tk } Q) E { s with heap := h, toks := tk })
    (done : ∀ (u : Str → Option Value) news₁ h tk, J vs.length news₁ → Fr h₀ env.locals h (fun y => if y = x then u y else m₀ y) → News h₀ env.locals h news₁ → Q .next { s with heap := h, toks := tk }) :
    wpAny (model prog w) A (pyIter (.ref l)) (fun it s₂ => LoopAtV prog w A h₀ env x body Q E it s₂) E s := by
  refine iter_lst (fun i m nx => J i nx ∧ ∀ z, z ≠ x → m z = m₀ z) hh hl F N ⟨hj, fun _ _ => rfl⟩ ?_ ?_
  · rintro i v m₁ news₁ h tk I oI hv ho hl₁ ⟨hJ, hm⟩ F₁ N₁
    have e : (fun y => if y = x then some v else m₁ y) = fun y => if y = x then some v else m₀ y := by
      funext y
      by_cases hy : y = x
      · simp [hy]
      · simp only [if_neg hy]; exact hm y hy
    rw [e] at F₁
    exact turn i v news₁ h tk I oI hv ho hl₁ hJ F₁ N₁
  · rintro m₁ news₁ h tk ⟨hJ, hm⟩ F₁ N₁
    have e : (fun y => if y = x then m₁ y else m₀ y) = m₁ := by
      funext y
      by_cases hy : y = x
      · simp [hy]
      · simp only [if_neg hy]; exact (hm y hy).symm
    exact done m₁ news₁ h tk hJ (by rw [e]; exact F₁) N₁
theorem iter_lst1 {l : Addr} {v : Value} {nn : Nat} {m₀ : Str → Option Value} {news : Led} (J : Led → Prop)
    (hh : A.handled = none) (hl : (l, listOf #[v] nn) ∈ news) (F : Fr h₀ env.locals s.heap m₀) (N : News h₀ env.locals s.heap news)
    (turn : ∀ h tk I oI, (∀ p ∈ news, p.1 ≠ I) → Fr h₀ env.locals h (fun y => if y = x then some v else m₀ y) → News h₀ env.locals h ((I, oI) :: news) →
      wpAny (model prog w) A (execs body env) (TurnPost h₀ env.locals (fun m' nx => (l, listOf #[v] nn) ∈ nx ∧ J nx) I oI { s with heap := h, toks := tk } Q) E { s with heap := h, toks := tk })
    (done : ∀ m₁ news₁ h tk, J news₁ → Fr h₀ env.locals h m₁ → News h₀ env.locals h news₁ → Q .next { s with heap := h, toks := tk }) :
    wpAny (model prog w) A (pyIter (.ref l)) (fun it s₂ => LoopAtV prog w A h₀ env x body Q E it s₂) E s := by
  refine iter_lst (vs := [v]) (nn := nn) (fun i m nx => (i = 0 → m = m₀ ∧ nx = news) ∧ (i ≠ 0 → J nx)) hh hl F N ⟨fun _ => ⟨rfl, rfl⟩, fun h => absurd rfl h⟩ ?_ ?_
  · rintro i v' m₁ news₁ h tk I oI hv ho hl₁ ⟨h0, -⟩ F₁ N₁
    obtain ⟨rfl, rfl⟩ : i = 0 ∧ v' = v := by
      cases i with
      | zero => exact ⟨rfl, by simpa using hv.symm⟩
      | succ i => simp at hv
    obtain ⟨rfl, rfl⟩ := h0 rfl
    refine wpAny_mono (turn h tk I oI ho F₁ N₁) (fun f s₂ p => ?_) fun _ _ e => e
    cases f with
    | ret r => exact p
    | brk => exact p
    | next => obtain ⟨h', tk', m', nx, e1, e2, e3, e4, e5, e6⟩ := p; exact ⟨h', tk', m', nx, e1, e2, e3, e4, e5, fun h => absurd h (by simp), fun _ => e6⟩
    | cont => obtain ⟨h', tk', m', nx, e1, e2, e3, e4, e5, e6⟩ := p; exact ⟨h', tk', m', nx, e1, e2, e3, e4, e5, fun h => absurd h (by simp), fun _ => e6⟩
  · rintro m₁ news₁ h tk ⟨-, h1⟩ F₁ N₁
    exact done m₁ news₁ h tk (h1 (by simp)) F₁ N₁
end
section

local macro_rules | `(tactic| walk_at "pyIter ref") => `(tactic| walk_at "ITB")
local macro_rules | `(tactic| walk_at "call ref") => `(tactic| walk_at "HOLD")
set_option maxHeartbeats 2000000 in
theorem sub_none {w : World} {mean : ExcName → Option Value} {mg mb : Str → Option Value} {row' : List Int}
    {rest : Led} {sc b gd lks lk S row inf G : Addr} {d at' n g : Int} {vs : List Value} {oG : Obj} {c : Nat} {tn ta : Tok}
    (hlk : ChainLk w rest lk row') (hs : SceneIn w rest sc b gd lks lk S d) (hb : BufIn w rest b row vs) (h0 : 0 ≤ at') (h1 : at' < vs.length) (h2 : vs.length ≤ 100) (hx : vs[at'.toNat]? = some (.ref inf)) (hi : (inf, instObj 142 G) ∈ rest)
    (hG : (G, oG) ∈ rest) (hS : ∀ p ∈ rest, p.1 ≠ S) (hD : InfD w oG g) (hgk : g < 10) (hd1 : d = 0) :
    Con w mean mg mb 653 70 480 [.ref sc, .int at' ta] ((S, listOf #[.int n tn] c) :: rest)
      (fun kq => ∀ t tn', kq (.int (-1) t) ((S, listOf #[.int 0 tn'] c) :: rest)) := by
  obtain ⟨tb, act, hLK, ht, hA⟩ := hlk
  refine hLK.elim fun ld tl lc TL v9 l1 l2 l3 => ?_
  have hs2 := hs
  refine hs2.elim fun sd TS s1 s2 => ?_
  unfold Con
  have hfill : (PySem.Challenge.rw_pf0148_01, hd.heap_39) = (PySem.Challenge.rw_pf0148_01, hd.heap_39) := rfl
  intro dp un gd nm cs a ccd cl outer A₀ base h₀ L m s Q E B F X N T hk hdp hun hret
  revert hfill
  k_fill
  intro hfill; clear hfill
  have hMk := kstMark
  k_with_none
  refine wpAny_call ?_
  k_dflt ktr_enter
  (k_steps; (all_goals (try ((with_reducible refine unheld ?_); (first | (refine' con_use1 ?k1_272 ?k2_272 ?k3_272 ?k4_272 ?k5_272 ?kK_272 ?kd_272 ?ku_272 ?q1_272 (c_ctxN ?s1_272 ?b1_272 ?a1_272 ?a2_272 ?a3_272 ?a4_272 ?f1_272 ?f2_272 ?n1_272 ?e5_272 ?a6_272 ?a7_272 ?b3_272) ?_; (case k1_272 => k_asm); (case k2_272 => k_asm); (case k3_272 => k_asm); (case k4_272 => k_asm); (case k5_272 => k_asm); (case kK_272 => first | exact rfl | assumption); (case e5_272 => assumption); (case q1_272 => (walk_at "PICK")); (case f1_272 => k_mem); (case f2_272 => k_mem); (case s1_272 => walk_at "SCENE"); (case b1_272 => (walk_at "BUND")); (case a1_272 => assumption); (case a2_272 => assumption); (case a3_272 => assumption); (case a4_272 => assumption); (case n1_272 => k_all); (case a6_272 => assumption); (case a7_272 => assumption); (case b3_272 => (walk_at "BUND")); (case kd_272 => ktr_room); (case ku_272 => ktr_units); k_whole;  intro t9z tn9z h9z tk9z F9z N9z; (try dsimp only); (try k_fold)) | fin_once hold walk1 | fail); (try k_steps)))); (all_goals (try ((with_reducible refine unheld ?_); (first | (refine' con_use1 ?k1_273 ?k2_273 ?k3_273 ?k4_273 ?k5_273 ?kK_273 ?kd_273 ?ku_273 ?q1_273 (c_ctxN ?s1_273 ?b1_273 ?a1_273 ?a2_273 ?a3_273 ?a4_273 ?f1_273 ?f2_273 ?n1_273 ?e5_273 ?a6_273 ?a7_273 ?b3_273) ?_; (case k1_273 => k_asm); (case k2_273 => k_asm); (case k3_273 => k_asm); (case k4_273 => k_asm); (case k5_273 => k_asm); (case kK_273 => first | exact rfl | assumption); (case e5_273 => assumption); (case q1_273 => (walk_at "PICK")); (case f1_273 => k_mem); (case f2_273 => k_mem); (case s1_273 => walk_at "SCENE"); (case b1_273 => (walk_at "BUND")); (case a1_273 => assumption); (case a2_273 => assumption); (case a3_273 => assumption); (case a4_273 => assumption); (case n1_273 => k_all); (case a6_273 => assumption); (case a7_273 => assumption); (case b3_273 => (walk_at "BUND")); (case kd_273 => ktr_room); (case ku_273 => ktr_units); k_whole;  intro t9z tn9z h9z tk9z F9z N9z; (try dsimp only); (try k_fold)) | fin_once hold walk1 | fail); (try k_steps)))); (all_goals (try ((with_reducible refine unheld ?_); (first | (refine' con_use1 ?k1_274 ?k2_274 ?k3_274 ?k4_274 ?k5_274 ?kK_274 ?kd_274 ?ku_274 ?q1_274 (c_ctxN ?s1_274 ?b1_274 ?a1_274 ?a2_274 ?a3_274 ?a4_274 ?f1_274 ?f2_274 ?n1_274 ?e5_274 ?a6_274 ?a7_274 ?b3_274) ?_; (case k1_274 => k_asm); (case k2_274 => k_asm); (case k3_274 => k_asm); (case k4_274 => k_asm); (case k5_274 => k_asm); (case kK_274 => first | exact rfl | assumption); (case e5_274 => assumption); (case q1_274 => (walk_at "PICK")); (case f1_274 => k_mem); (case f2_274 => k_mem); (case s1_274 => walk_at "SCENE"); (case b1_274 => (walk_at "BUND")); (case a1_274 => assumption); (case a2_274 => assumption); (case a3_274 => assumption); (case a4_274 => assumption); (case n1_274 => k_all); (case a6_274 => assumption); (case a7_274 => assumption); (case b3_274 => (walk_at "BUND")); (case kd_274 => ktr_room); (case ku_274 => ktr_units); k_whole;  intro t9z tn9z h9z tk9z F9z N9z; (try dsimp only); (try k_fold)) | fin_once hold walk1 | fail); (try k_steps)))))
  unfold Blocked
  refine' iter_lst1 (v := .ref tb) (nn := lc) (fun nx => ∃ tn, nx = (S, listOf #[.int 0 tn] c) :: rest) ?zh ?zl ?zF ?zN ?zt ?zd
  case zF => k_asm
  case zN => k_asm
  case zh => rfl
  case zl => k_mem
  case zd =>
    rintro m₁ news₁ h tk ⟨tn', rfl⟩ F₁ N₁
    (k_steps; (all_goals (try ((with_reducible refine unheld ?_); (first | (refine' con_use1 ?k1_275 ?k2_275 ?k3_275 ?k4_275 ?k5_275 ?kK_275 ?kd_275 ?ku_275 ?q1_275 (c_ctxN ?s1_275 ?b1_275 ?a1_275 ?a2_275 ?a3_275 ?a4_275 ?f1_275 ?f2_275 ?n1_275 ?e5_275 ?a6_275 ?a7_275 ?b3_275) ?_; (case k1_275 => k_asm); (case k2_275 => k_asm); (case k3_275 => k_asm); (case k4_275 => k_asm); (case k5_275 => k_asm); (case kK_275 => first | exact rfl | assumption); (case e5_275 => assumption); (case q1_275 => (walk_at "PICK")); (case f1_275 => k_mem); (case f2_275 => k_mem); (case s1_275 => walk_at "SCENE"); (case b1_275 => (walk_at "BUND")); (case a1_275 => assumption); (case a2_275 => assumption); (case a3_275 => assumption); (case a4_275 => assumption); (case n1_275 => k_all); (case a6_275 => assumption); (case a7_275 => assumption); (case b3_275 => (walk_at "BUND")); (case kd_275 => ktr_room); (case ku_275 => ktr_units); k_whole;  intro t9z tn9z h9z tk9z F9z N9z; (try dsimp only); (try k_fold)) | fin_once hold walk1 | fail); (try k_steps)))); (all_goals (try ((with_reducible refine unheld ?_); (first | (refine' con_use1 ?k1_276 ?k2_276 ?k3_276 ?k4_276 ?k5_276 ?kK_276 ?kd_276 ?ku_276 ?q1_276 (c_ctxN ?s1_276 ?b1_276 ?a1_276 ?a2_276 ?a3_276 ?a4_276 ?f1_276 ?f2_276 ?n1_276 ?e5_276 ?a6_276 ?a7_276 ?b3_276) ?_; (case k1_276 => k_asm); (case k2_276 => k_asm); (case k3_276 => k_asm); (case k4_276 => k_asm); (case k5_276 => k_asm); (case kK_276 => first | exact rfl | assumption); (case e5_276 => assumption); (case q1_276 => (walk_at "PICK")); (case f1_276 => k_mem); (case f2_276 => k_mem); (case s1_276 => walk_at "SCENE"); (case b1_276 => (walk_at "BUND")); (case a1_276 => assumption); (case a2_276 => assumption); (case a3_276 => assumption); (case a4_276 => assumption); (case n1_276 => k_all); (case a6_276 => assumption); (case a7_276 => assumption); (case b3_276 => (walk_at "BUND")); (case kd_276 => ktr_room); (case ku_276 => ktr_units); k_whole;  intro t9z tn9z h9z tk9z F9z N9z; (try dsimp only); (try k_fold)) | fin_once hold walk1 | fail); (try k_steps)))); (all_goals (try ((with_reducible refine unheld ?_); (first | (refine' con_use1 ?k1_277 ?k2_277 ?k3_277 ?k4_277 ?k5_277 ?kK_277 ?kd_277 ?ku_277 ?q1_277 (c_ctxN ?s1_277 ?b1_277 ?a1_277 ?a2_277 ?a3_277 ?a4_277 ?f1_277 ?f2_277 ?n1_277 ?e5_277 ?a6_277 ?a7_277 ?b3_277) ?_; (case k1_277 => k_asm); (case k2_277 => k_asm); (case k3_277 => k_asm); (case k4_277 => k_asm); (case k5_277 => k_asm); (case kK_277 => first | exact rfl | assumption); (case e5_277 => assumption); (case q1_277 => (walk_at "PICK")); (case f1_277 => k_mem); (case f2_277 => k_mem); (case s1_277 => walk_at "SCENE"); (case b1_277 => (walk_at "BUND")); (case a1_277 => assumption); (case a2_277 => assumption); (case a3_277 => assumption); (case a4_277 => assumption); (case n1_277 => k_all); (case a6_277 => assumption); (case a7_277 => assumption); (case b3_277 => (walk_at "BUND")); (case kd_277 => ktr_room); (case ku_277 => ktr_units); k_whole;  intro t9z tn9z h9z tk9z F9z N9z; (try dsimp only); (try k_fold)) | fin_once hold walk1 | fail); (try k_steps)))))
    exact hret _ _ _ _ (by k_asm) (by k_asm)
  case zt =>
    intro h tk I oI ho F₁ N₁
    (k_steps; (all_goals (try ((with_reducible refine unheld ?_); (first | (refine' con_use1 ?k1_278 ?k2_278 ?k3_278 ?k4_278 ?k5_278 ?kK_278 ?kd_278 ?ku_278 ?q1_278 (c_ctxN ?s1_278 ?b1_278 ?a1_278 ?a2_278 ?a3_278 ?a4_278 ?f1_278 ?f2_278 ?n1_278 ?e5_278 ?a6_278 ?a7_278 ?b3_278) ?_; (case k1_278 => k_asm); (case k2_278 => k_asm); (case k3_278 => k_asm); (case k4_278 => k_asm); (case k5_278 => k_asm); (case kK_278 => first | exact rfl | assumption); (case e5_278 => assumption); (case q1_278 => (walk_at "PICK")); (case f1_278 => k_mem); (case f2_278 => k_mem); (case s1_278 => walk_at "SCENE"); (case b1_278 => (walk_at "BUND")); (case a1_278 => assumption); (case a2_278 => assumption); (case a3_278 => assumption); (case a4_278 => assumption); (case n1_278 => k_all); (case a6_278 => assumption); (case a7_278 => assumption); (case b3_278 => (walk_at "BUND")); (case kd_278 => ktr_room); (case ku_278 => ktr_units); k_whole;  intro t9z tn9z h9z tk9z F9z N9z; (try dsimp only); (try k_fold)) | fin_once hold walk1 | fail); (try k_steps)))); (all_goals (try ((with_reducible refine unheld ?_); (first | (refine' con_use1 ?k1_279 ?k2_279 ?k3_279 ?k4_279 ?k5_279 ?kK_279 ?kd_279 ?ku_279 ?q1_279 (c_ctxN ?s1_279 ?b1_279 ?a1_279 ?a2_279 ?a3_279 ?a4_279 ?f1_279 ?f2_279 ?n1_279 ?e5_279 ?a6_279 ?a7_279 ?b3_279) ?_; (case k1_279 => k_asm); (case k2_279 => k_asm); (case k3_279 => k_asm); (case k4_279 => k_asm); (case k5_279 => k_asm); (case kK_279 => first | exact rfl | assumption); (case e5_279 => assumption); (case q1_279 => (walk_at "PICK")); (case f1_279 => k_mem); (case f2_279 => k_mem); (case s1_279 => walk_at "SCENE"); (case b1_279 => (walk_at "BUND")); (case a1_279 => assumption); (case a2_279 => assumption); (case a3_279 => assumption); (case a4_279 => assumption); (case n1_279 => k_all); (case a6_279 => assumption); (case a7_279 => assumption); (case b3_279 => (walk_at "BUND")); (case kd_279 => ktr_room); (case ku_279 => ktr_units); k_whole;  intro t9z tn9z h9z tk9z F9z N9z; (try dsimp only); (try k_fold)) | fin_once hold walk1 | fail); (try k_steps)))); (all_goals (try ((with_reducible refine unheld ?_); (first | (refine' con_use1 ?k1_280 ?k2_280 ?k3_280 ?k4_280 ?k5_280 ?kK_280 ?kd_280 ?ku_280 ?q1_280 (c_ctxN ?s1_280 ?b1_280 ?a1_280 ?a2_280 ?a3_280 ?a4_280 ?f1_280 ?f2_280 ?n1_280 ?e5_280 ?a6_280 ?a7_280 ?b3_280) ?_; (case k1_280 => k_asm); (case k2_280 => k_asm); (case k3_280 => k_asm); (case k4_280 => k_asm); (case k5_280 => k_asm); (case kK_280 => first | exact rfl | assumption); (case e5_280 => assumption); (case q1_280 => (walk_at "PICK")); (case f1_280 => k_mem); (case f2_280 => k_mem); (case s1_280 => walk_at "SCENE"); (case b1_280 => (walk_at "BUND")); (case a1_280 => assumption); (case a2_280 => assumption); (case a3_280 => assumption); (case a4_280 => assumption); (case n1_280 => k_all); (case a6_280 => assumption); (case a7_280 => assumption); (case b3_280 => (walk_at "BUND")); (case kd_280 => ktr_room); (case ku_280 => ktr_units); k_whole;  intro t9z tn9z h9z tk9z F9z N9z; (try dsimp only); (try k_fold)) | fin_once hold walk1 | fail); (try k_steps)))))
    unfold Blocked
    refine' turn_end ?ua ?ub ?uc ?ud ⟨?ul, ⟨_, rfl⟩⟩
    case ua => k_asm
    case ub => k_asm
    case uc => walk_at "SUB"
    case ud => k_all
    case ul => k_mem
end
def Holds (inf G : Addr) (oG : Obj) : Prop := inf = inf ∧ G = G ∧ oG = oG
theorem top_use {w : World} {mean : ExcName → Option Value} {mg mb : Str → Option Value} {lks k0 k1 k2 k3 : Addr} {r0 r1 r2 : List Int} {rest : Led} {sc b gd S row inf G : Addr} {at' n : Int} {vs : List Value} {oG : Obj} {c : Nat} {tn ta : Tok}
    (q0 : ∀ g ∈ r0, g = 1 ∨ g = 3) (q1 : ∀ g ∈ r1, g = 2 ∨ g = 3) (q2 : ∀ g ∈ r2, g = 3) (hx : vs[at'.toNat]? = some (.ref inf)) (_hh : Holds inf G oG) (hD : InfD w oG 10)
    (hall : AllIn w rest lks k0 k1 k2 k3 r0 r1 r2) (hs : SceneIn w rest sc b gd lks k0 S 0) (hb : BufIn w rest b row vs) (h0 : 0 ≤ at') (h1 : at' < vs.length) (h2 : vs.length ≤ 100) (hi : (inf, instObj 142 G) ∈ rest)
    (hS : ∀ p ∈ rest, p.1 ≠ S) (hG : ∀ p ∈ rest, p.1 ≠ G) (hSG : S ≠ G) :
    Con w mean mg mb 653 140 1800 [.ref sc, .int at' ta] ((S, listOf #[.int n tn] c) :: (G, oG) :: rest)
      (fun kq => ∀ t o' g' tn', InfD w o' g' → g' = 10 + (F0 r0 r1 r2 (0, 0)).2 → kq (.int (at' + 1) t) ((S, listOf #[.int (F0 r0 r1 r2 (0, 0)).1 tn'] c) :: (G, o') :: rest)) :=
  sub_top (top_H q0 q1 q2) hall hall.2.1 hs (by decide) (by decide) (by decide) hb h0 h1 h2 hx hi hS hG hSG hD (by decide) ⟨by decide, by decide, by decide⟩ rfl
section
local macro_rules | `(tactic| walk_at "exec While Compare cons nil") => `(tactic| (k_here; k_dflt (refine whl_start 100 ?_)))
local macro_rules | `(tactic| walk_at "WhlIf") => `(tactic| first | (refine WhlIf.yes (by simp; omega) ?_) | (refine WhlIf.no (by simp; omega) ?_))
local macro_rules | `(tactic| walk_at "call ref") => `(tactic| walk_at "HOLD")
set_option maxHeartbeats 2000000 in
theorem c_run2 {w : World} {mean : ExcName → Option Value} {mg mb : Str → Option Value} {lks k0 k1 k2 k3 : Addr} {r0 r1 r2 : List Int} (q0 : ∀ g ∈ r0, g = 1 ∨ g = 3) (q1 : ∀ g ∈ r1, g = 2 ∨ g = 3) (q2 : ∀ g ∈ r2, g = 3)
    {rest : Led} {b gd row i1 i2 G1 G2 : Addr} {vs : List Value} {o1 o2 : Obj} {tn tm : Tok}
    (hall : AllIn w rest lks k0 k1 k2 k3 r0 r1 r2) (hb : BufIn w rest b row vs) (hg : GdefIn w rest gd) (h2 : vs.length ≤ 100) (hl : vs.length = 2) (hx1 : (0 : Int) < vs.length) (hx2 : (0 : Int) + 1 < vs.length) (hy1 : vs[(0 : Int).toNat]? = some (.ref i1)) (hy2 : vs[((0 : Int) + 1).toNat]? = some (.ref i2))
    (hi1 : (i1, instObj 142 G1) ∈ rest) (hi2 : (i2, instObj 142 G2) ∈ rest) (hG1 : ∀ p ∈ rest, p.1 ≠ G1) (hG2 : ∀ p ∈ rest, p.1 ≠ G2) (hGG : G1 ≠ G2) (hD1 : InfD w o1 10) (hD2 : InfD w o2 10) (hh1 : Holds i1 G1 o1) (hh2 : Holds i2 G2 o2) :
    Con w mean mg mb 674 190 1900 [.ref b, .ref gd, .ref lks, .int 0 tn, .int 1 tm] ((G1, o1) :: (G2, o2) :: rest)
      (fun kq => ∀ t o1' o2', InfD w o1' (10 + (F0 r0 r1 r2 (0, 0)).2) → InfD w o2' (10 + (F0 r0 r1 r2 (0, 0)).2) → kq (.int 2 t) ((G1, o1') :: (G2, o2') :: rest)) := by
  have hl0 : (0 : Int) ≤ 0 := by decide
  have hl1 : (0 : Int) ≤ 0 + 1 := by decide
  have hall2 := hall
  obtain ⟨⟨lc, hlks⟩, hk0, -⟩ := hall2
  have hk02 := hk0
  obtain ⟨tb, act, hLk, -, -⟩ := hk02
  have hLk2 := hLk
  refine hLk2.elim fun ld tl lc2 TL v9 l1 l2 l3 => ?_
  have hb2 := hb
  refine hb2.elim fun bd bc TB VB b1 b2 b3 => ?_
  unfold Con
  have hfill : (PySem.Challenge.rw_pf0148_01, hd.heap_39) = (PySem.Challenge.rw_pf0148_01, hd.heap_39) := rfl
  intro dp un gd nm cs a ccd cl outer A₀ base h₀ L m s Q E B F X N T hk hdp hun hret
  revert hfill
  k_fill
  intro hfill; clear hfill
  have hMk := kstMark
  k_with_none
  refine wpAny_call ?_
  k_dflt ktr_enter
  (k_steps; (all_goals (try ((with_reducible refine unheld ?_); (first | (refine' con_use2 ?k1_281 ?k2_281 ?k3_281 ?k4_281 ?k5_281 ?kK_281 ?kd_281 ?ku_281 ?q1_281 ?q2_281 (top_use ?e91_281 ?e92_281 ?e93_281 ?e94_281 ?e95_281 ?e96_281 ?b1_281 ?s1_281 ?b2_281 ?a1_281 ?a2_281 ?a3_281 ?m1_281 ?n1_281 ?n2_281 ?k93_281) ?_; (case k1_281 => k_asm); (case k2_281 => k_asm); (case k3_281 => k_asm); (case k4_281 => k_asm); (case k5_281 => k_asm); (case kK_281 => first | exact rfl | assumption); (case e91_281 => assumption); (case e92_281 => assumption); (case e93_281 => assumption); (case e94_281 => assumption); (case e95_281 => assumption); (case e96_281 => assumption); (case q1_281 => (walk_at "PICK")); (case q2_281 => (walk_at "PICK")); (case b1_281 => (walk_at "BUND")); (case s1_281 => walk_at "SCENE"); (case b2_281 => (walk_at "BUND")); (case a1_281 => assumption); (case a2_281 => assumption); (case a3_281 => assumption); (case m1_281 => k_mem); (case n1_281 => k_all); (case n2_281 => k_all); (case k93_281 => k_ne); (case kd_281 => ktr_room); (case ku_281 => ktr_units); k_whole;  intro t9z o9z g9z tn9z u9z w9z h9z tk9z F9z N9z; subst w9z; (try dsimp only); (try k_fold)) | (refine' con_use ?k1_282 ?k2_282 ?k3_282 ?k4_282 ?k5_282 ?kK_282 ?kd_282 ?ku_282 (c_takes ?s1_282 ?b1_282 ?b2_282 ?b3_282 ?a1_282 ?a2_282 ?a3_282 ?a4_282 ?m1_282 ?m2_282 ?a5_282) ?_; (case k1_282 => k_asm); (case k2_282 => k_asm); (case k3_282 => k_asm); (case k4_282 => k_asm); (case k5_282 => k_asm); (case kK_282 => first | exact rfl | assumption); (case s1_282 => walk_at "SCENE"); (case b1_282 => (walk_at "BUND")); (case b2_282 => (walk_at "BUND")); (case b3_282 => (walk_at "BUND")); (case a1_282 => assumption); (case a2_282 => assumption); (case a3_282 => assumption); (case a4_282 => assumption); (case m1_282 => k_mem); (case m2_282 => k_mem); (case a5_282 => assumption); (case kd_282 => ktr_room); (case ku_282 => ktr_units); k_whole;  intro  h9z tk9z F9z N9z; (try dsimp only); (try k_fold)) | fin_once hold walk1 | fail); (try k_steps)))); (all_goals (try ((with_reducible refine unheld ?_); (first | (refine' con_use2 ?k1_283 ?k2_283 ?k3_283 ?k4_283 ?k5_283 ?kK_283 ?kd_283 ?ku_283 ?q1_283 ?q2_283 (top_use ?e91_283 ?e92_283 ?e93_283 ?e94_283 ?e95_283 ?e96_283 ?b1_283 ?s1_283 ?b2_283 ?a1_283 ?a2_283 ?a3_283 ?m1_283 ?n1_283 ?n2_283 ?k93_283) ?_; (case k1_283 => k_asm); (case k2_283 => k_asm); (case k3_283 => k_asm); (case k4_283 => k_asm); (case k5_283 => k_asm); (case kK_283 => first | exact rfl | assumption); (case e91_283 => assumption); (case e92_283 => assumption); (case e93_283 => assumption); (case e94_283 => assumption); (case e95_283 => assumption); (case e96_283 => assumption); (case q1_283 => (walk_at "PICK")); (case q2_283 => (walk_at "PICK")); (case b1_283 => (walk_at "BUND")); (case s1_283 => walk_at "SCENE"); (case b2_283 => (walk_at "BUND")); (case a1_283 => assumption); (case a2_283 => assumption); (case a3_283 => assumption); (case m1_283 => k_mem); (case n1_283 => k_all); (case n2_283 => k_all); (case k93_283 => k_ne); (case kd_283 => ktr_room); (case ku_283 => ktr_units); k_whole;  intro t9z o9z g9z tn9z u9z w9z h9z tk9z F9z N9z; subst w9z; (try dsimp only); (try k_fold)) | (refine' con_use ?k1_284 ?k2_284 ?k3_284 ?k4_284 ?k5_284 ?kK_284 ?kd_284 ?ku_284 (c_takes ?s1_284 ?b1_284 ?b2_284 ?b3_284 ?a1_284 ?a2_284 ?a3_284 ?a4_284 ?m1_284 ?m2_284 ?a5_284) ?_; (case k1_284 => k_asm); (case k2_284 => k_asm); (case k3_284 => k_asm); (case k4_284 => k_asm); (case k5_284 => k_asm); (case kK_284 => first | exact rfl | assumption); (case s1_284 => walk_at "SCENE"); (case b1_284 => (walk_at "BUND")); (case b2_284 => (walk_at "BUND")); (case b3_284 => (walk_at "BUND")); (case a1_284 => assumption); (case a2_284 => assumption); (case a3_284 => assumption); (case a4_284 => assumption); (case m1_284 => k_mem); (case m2_284 => k_mem); (case a5_284 => assumption); (case kd_284 => ktr_room); (case ku_284 => ktr_units); k_whole;  intro  h9z tk9z F9z N9z; (try dsimp only); (try k_fold)) | fin_once hold walk1 | fail); (try k_steps)))); (all_goals (try ((with_reducible refine unheld ?_); (first | (refine' con_use2 ?k1_285 ?k2_285 ?k3_285 ?k4_285 ?k5_285 ?kK_285 ?kd_285 ?ku_285 ?q1_285 ?q2_285 (top_use ?e91_285 ?e92_285 ?e93_285 ?e94_285 ?e95_285 ?e96_285 ?b1_285 ?s1_285 ?b2_285 ?a1_285 ?a2_285 ?a3_285 ?m1_285 ?n1_285 ?n2_285 ?k93_285) ?_; (case k1_285 => k_asm); (case k2_285 => k_asm); (case k3_285 => k_asm); (case k4_285 => k_asm); (case k5_285 => k_asm); (case kK_285 => first | exact rfl | assumption); (case e91_285 => assumption); (case e92_285 => assumption); (case e93_285 => assumption); (case e94_285 => assumption); (case e95_285 => assumption); (case e96_285 => assumption); (case q1_285 => (walk_at "PICK")); (case q2_285 => (walk_at "PICK")); (case b1_285 => (walk_at "BUND")); (case s1_285 => walk_at "SCENE"); (case b2_285 => (walk_at "BUND")); (case a1_285 => assumption); (case a2_285 => assumption); (case a3_285 => assumption); (case m1_285 => k_mem); (case n1_285 => k_all); (case n2_285 => k_all); (case k93_285 => k_ne); (case kd_285 => ktr_room); (case ku_285 => ktr_units); k_whole;  intro t9z o9z g9z tn9z u9z w9z h9z tk9z F9z N9z; subst w9z; (try dsimp only); (try k_fold)) | (refine' con_use ?k1_286 ?k2_286 ?k3_286 ?k4_286 ?k5_286 ?kK_286 ?kd_286 ?ku_286 (c_takes ?s1_286 ?b1_286 ?b2_286 ?b3_286 ?a1_286 ?a2_286 ?a3_286 ?a4_286 ?m1_286 ?m2_286 ?a5_286) ?_; (case k1_286 => k_asm); (case k2_286 => k_asm); (case k3_286 => k_asm); (case k4_286 => k_asm); (case k5_286 => k_asm); (case kK_286 => first | exact rfl | assumption); (case s1_286 => walk_at "SCENE"); (case b1_286 => (walk_at "BUND")); (case b2_286 => (walk_at "BUND")); (case b3_286 => (walk_at "BUND")); (case a1_286 => assumption); (case a2_286 => assumption); (case a3_286 => assumption); (case a4_286 => assumption); (case m1_286 => k_mem); (case m2_286 => k_mem); (case a5_286 => assumption); (case kd_286 => ktr_room); (case ku_286 => ktr_units); k_whole;  intro  h9z tk9z F9z N9z; (try dsimp only); (try k_fold)) | fin_once hold walk1 | fail); (try k_steps)))); (all_goals (try ((with_reducible refine unheld ?_); (first | (refine' con_use2 ?k1_287 ?k2_287 ?k3_287 ?k4_287 ?k5_287 ?kK_287 ?kd_287 ?ku_287 ?q1_287 ?q2_287 (top_use ?e91_287 ?e92_287 ?e93_287 ?e94_287 ?e95_287 ?e96_287 ?b1_287 ?s1_287 ?b2_287 ?a1_287 ?a2_287 ?a3_287 ?m1_287 ?n1_287 ?n2_287 ?k93_287) ?_; (case k1_287 => k_asm); (case k2_287 => k_asm); (case k3_287 => k_asm); (case k4_287 => k_asm); (case k5_287 => k_asm); (case kK_287 => first | exact rfl | assumption); (case e91_287 => assumption); (case e92_287 => assumption); (case e93_287 => assumption); (case e94_287 => assumption); (case e95_287 => assumption); (case e96_287 => assumption); (case q1_287 => (walk_at "PICK")); (case q2_287 => (walk_at "PICK")); (case b1_287 => (walk_at "BUND")); (case s1_287 => walk_at "SCENE"); (case b2_287 => (walk_at "BUND")); (case a1_287 => assumption); (case a2_287 => assumption); (case a3_287 => assumption); (case m1_287 => k_mem); (case n1_287 => k_all); (case n2_287 => k_all); (case k93_287 => k_ne); (case kd_287 => ktr_room); (case ku_287 => ktr_units); k_whole;  intro t9z o9z g9z tn9z u9z w9z h9z tk9z F9z N9z; subst w9z; (try dsimp only); (try k_fold)) | (refine' con_use ?k1_288 ?k2_288 ?k3_288 ?k4_288 ?k5_288 ?kK_288 ?kd_288 ?ku_288 (c_takes ?s1_288 ?b1_288 ?b2_288 ?b3_288 ?a1_288 ?a2_288 ?a3_288 ?a4_288 ?m1_288 ?m2_288 ?a5_288) ?_; (case k1_288 => k_asm); (case k2_288 => k_asm); (case k3_288 => k_asm); (case k4_288 => k_asm); (case k5_288 => k_asm); (case kK_288 => first | exact rfl | assumption); (case s1_288 => walk_at "SCENE"); (case b1_288 => (walk_at "BUND")); (case b2_288 => (walk_at "BUND")); (case b3_288 => (walk_at "BUND")); (case a1_288 => assumption); (case a2_288 => assumption); (case a3_288 => assumption); (case a4_288 => assumption); (case m1_288 => k_mem); (case m2_288 => k_mem); (case a5_288 => assumption); (case kd_288 => ktr_room); (case ku_288 => ktr_units); k_whole;  intro  h9z tk9z F9z N9z; (try dsimp only); (try k_fold)) | fin_once hold walk1 | fail); (try k_steps)))); (all_goals (try ((with_reducible refine unheld ?_); (first | (refine' con_use2 ?k1_289 ?k2_289 ?k3_289 ?k4_289 ?k5_289 ?kK_289 ?kd_289 ?ku_289 ?q1_289 ?q2_289 (top_use ?e91_289 ?e92_289 ?e93_289 ?e94_289 ?e95_289 ?e96_289 ?b1_289 ?s1_289 ?b2_289 ?a1_289 ?a2_289 ?a3_289 ?m1_289 ?n1_289 ?n2_289 ?k93_289) ?_; (case k1_289 => k_asm); (case k2_289 => k_asm); (case k3_289 => k_asm); (case k4_289 => k_asm); (case k5_289 => k_asm); (case kK_289 => first | exact rfl | assumption); (case e91_289 => assumption); (case e92_289 => assumption); (case e93_289 => assumption); (case e94_289 => assumption); (case e95_289 => assumption); (case e96_289 => assumption); (case q1_289 => (walk_at "PICK")); (case q2_289 => (walk_at "PICK")); (case b1_289 => (walk_at "BUND")); (case s1_289 => walk_at "SCENE"); (case b2_289 => (walk_at "BUND")); (case a1_289 => assumption); (case a2_289 => assumption); (case a3_289 => assumption); (case m1_289 => k_mem); (case n1_289 => k_all); (case n2_289 => k_all); (case k93_289 => k_ne); (case kd_289 => ktr_room); (case ku_289 => ktr_units); k_whole;  intro t9z o9z g9z tn9z u9z w9z h9z tk9z F9z N9z; subst w9z; (try dsimp only); (try k_fold)) | (refine' con_use ?k1_290 ?k2_290 ?k3_290 ?k4_290 ?k5_290 ?kK_290 ?kd_290 ?ku_290 (c_takes ?s1_290 ?b1_290 ?b2_290 ?b3_290 ?a1_290 ?a2_290 ?a3_290 ?a4_290 ?m1_290 ?m2_290 ?a5_290) ?_; (case k1_290 => k_asm); (case k2_290 => k_asm); (case k3_290 => k_asm); (case k4_290 => k_asm); (case k5_290 => k_asm); (case kK_290 => first | exact rfl | assumption); (case s1_290 => walk_at "SCENE"); (case b1_290 => (walk_at "BUND")); (case b2_290 => (walk_at "BUND")); (case b3_290 => (walk_at "BUND")); (case a1_290 => assumption); (case a2_290 => assumption); (case a3_290 => assumption); (case a4_290 => assumption); (case m1_290 => k_mem); (case m2_290 => k_mem); (case a5_290 => assumption); (case kd_290 => ktr_room); (case ku_290 => ktr_units); k_whole;  intro  h9z tk9z F9z N9z; (try dsimp only); (try k_fold)) | fin_once hold walk1 | fail); (try k_steps)))); (all_goals (try ((with_reducible refine unheld ?_); (first | (refine' con_use2 ?k1_291 ?k2_291 ?k3_291 ?k4_291 ?k5_291 ?kK_291 ?kd_291 ?ku_291 ?q1_291 ?q2_291 (top_use ?e91_291 ?e92_291 ?e93_291 ?e94_291 ?e95_291 ?e96_291 ?b1_291 ?s1_291 ?b2_291 ?a1_291 ?a2_291 ?a3_291 ?m1_291 ?n1_291 ?n2_291 ?k93_291) ?_; (case k1_291 => k_asm); (case k2_291 => k_asm); (case k3_291 => k_asm); (case k4_291 => k_asm); (case k5_291 => k_asm); (case kK_291 => first | exact rfl | assumption); (case e91_291 => assumption); (case e92_291 => assumption); (case e93_291 => assumption); (case e94_291 => assumption); (case e95_291 => assumption); (case e96_291 => assumption); (case q1_291 => (walk_at "PICK")); (case q2_291 => (walk_at "PICK")); (case b1_291 => (walk_at "BUND")); (case s1_291 => walk_at "SCENE"); (case b2_291 => (walk_at "BUND")); (case a1_291 => assumption); (case a2_291 => assumption); (case a3_291 => assumption); (case m1_291 => k_mem); (case n1_291 => k_all); (case n2_291 => k_all); (case k93_291 => k_ne); (case kd_291 => ktr_room); (case ku_291 => ktr_units); k_whole;  intro t9z o9z g9z tn9z u9z w9z h9z tk9z F9z N9z; subst w9z; (try dsimp only); (try k_fold)) | (refine' con_use ?k1_292 ?k2_292 ?k3_292 ?k4_292 ?k5_292 ?kK_292 ?kd_292 ?ku_292 (c_takes ?s1_292 ?b1_292 ?b2_292 ?b3_292 ?a1_292 ?a2_292 ?a3_292 ?a4_292 ?m1_292 ?m2_292 ?a5_292) ?_; (case k1_292 => k_asm); (case k2_292 => k_asm); (case k3_292 => k_asm); (case k4_292 => k_asm); (case k5_292 => k_asm); (case kK_292 => first | exact rfl | assumption); (case s1_292 => walk_at "SCENE"); (case b1_292 => (walk_at "BUND")); (case b2_292 => (walk_at "BUND")); (case b3_292 => (walk_at "BUND")); (case a1_292 => assumption); (case a2_292 => assumption); (case a3_292 => assumption); (case a4_292 => assumption); (case m1_292 => k_mem); (case m2_292 => k_mem); (case a5_292 => assumption); (case kd_292 => ktr_room); (case ku_292 => ktr_units); k_whole;  intro  h9z tk9z F9z N9z; (try dsimp only); (try k_fold)) | fin_once hold walk1 | fail); (try k_steps)))); (all_goals (try ((with_reducible refine unheld ?_); (first | (refine' con_use2 ?k1_293 ?k2_293 ?k3_293 ?k4_293 ?k5_293 ?kK_293 ?kd_293 ?ku_293 ?q1_293 ?q2_293 (top_use ?e91_293 ?e92_293 ?e93_293 ?e94_293 ?e95_293 ?e96_293 ?b1_293 ?s1_293 ?b2_293 ?a1_293 ?a2_293 ?a3_293 ?m1_293 ?n1_293 ?n2_293 ?k93_293) ?_; (case k1_293 => k_asm); (case k2_293 => k_asm); (case k3_293 => k_asm); (case k4_293 => k_asm); (case k5_293 => k_asm); (case kK_293 => first | exact rfl | assumption); (case e91_293 => assumption); (case e92_293 => assumption); (case e93_293 => assumption); (case e94_293 => assumption); (case e95_293 => assumption); (case e96_293 => assumption); (case q1_293 => (walk_at "PICK")); (case q2_293 => (walk_at "PICK")); (case b1_293 => (walk_at "BUND")); (case s1_293 => walk_at "SCENE"); (case b2_293 => (walk_at "BUND")); (case a1_293 => assumption); (case a2_293 => assumption); (case a3_293 => assumption); (case m1_293 => k_mem); (case n1_293 => k_all); (case n2_293 => k_all); (case k93_293 => k_ne); (case kd_293 => ktr_room); (case ku_293 => ktr_units); k_whole;  intro t9z o9z g9z tn9z u9z w9z h9z tk9z F9z N9z; subst w9z; (try dsimp only); (try k_fold)) | (refine' con_use ?k1_294 ?k2_294 ?k3_294 ?k4_294 ?k5_294 ?kK_294 ?kd_294 ?ku_294 (c_takes ?s1_294 ?b1_294 ?b2_294 ?b3_294 ?a1_294 ?a2_294 ?a3_294 ?a4_294 ?m1_294 ?m2_294 ?a5_294) ?_; (case k1_294 => k_asm); (case k2_294 => k_asm); (case k3_294 => k_asm); (case k4_294 => k_asm); (case k5_294 => k_asm); (case kK_294 => first | exact rfl | assumption); (case s1_294 => walk_at "SCENE"); (case b1_294 => (walk_at "BUND")); (case b2_294 => (walk_at "BUND")); (case b3_294 => (walk_at "BUND")); (case a1_294 => assumption); (case a2_294 => assumption); (case a3_294 => assumption); (case a4_294 => assumption); (case m1_294 => k_mem); (case m2_294 => k_mem); (case a5_294 => assumption); (case kd_294 => ktr_room); (case ku_294 => ktr_units); k_whole;  intro  h9z tk9z F9z N9z; (try dsimp only); (try k_fold)) | fin_once hold walk1 | fail); (try k_steps)))))
  refine' hret _ _ _ ?zi ?zj _ _ (by k_asm) (cb_drop (by assumption) ?zd)
  case zd => walk_at "SUB"
  case zi => assumption
  case zj => assumption
end
theorem none_use {w : World} {mean : ExcName → Option Value} {mg mb : Str → Option Value} {lks k0 k1 k2 k3 : Addr} {r0 r1 r2 : List Int} {rest : Led} {sc b gd S row inf G : Addr} {at' n : Int} {vs : List Value} {oG : Obj} {c : Nat} {tn ta : Tok}
    (hx : vs[at'.toNat]? = some (.ref inf)) (_hh : Holds inf G oG) (hD : InfD w oG 5)
    (hall : AllIn w rest lks k0 k1 k2 k3 r0 r1 r2) (hs : SceneIn w rest sc b gd lks k0 S 0) (hb : BufIn w rest b row vs) (h0 : 0 ≤ at') (h1 : at' < vs.length) (h2 : vs.length ≤ 100) (hi : (inf, instObj 142 G) ∈ rest)
    (hG : (G, oG) ∈ rest) (hS : ∀ p ∈ rest, p.1 ≠ S) :
    Con w mean mg mb 653 140 1800 [.ref sc, .int at' ta] ((S, listOf #[.int n tn] c) :: rest)
      (fun kq => ∀ t tn', kq (.int (-1) t) ((S, listOf #[.int 0 tn'] c) :: rest)) :=
  (sub_none hall.2.1 hs hb h0 h1 h2 hx hi hG hS hD (by decide) rfl).weak (by decide) (by decide)
section
local macro_rules | `(tactic| walk_at "exec While Compare cons nil") => `(tactic| (k_here; k_dflt (refine whl_start 100 ?_)))
local macro_rules | `(tactic| walk_at "WhlIf") => `(tactic| first | (refine WhlIf.yes (by simp; omega) ?_) | (refine WhlIf.no (by simp; omega) ?_))
local macro_rules | `(tactic| walk_at "call ref") => `(tactic| walk_at "HOLD")
set_option maxHeartbeats 2000000 in
theorem c_run3 {w : World} {mean : ExcName → Option Value} {mg mb : Str → Option Value} {lks k0 k1 k2 k3 : Addr} {r0 r1 r2 : List Int} (q0 : ∀ g ∈ r0, g = 1 ∨ g = 3) (q1 : ∀ g ∈ r1, g = 2 ∨ g = 3) (q2 : ∀ g ∈ r2, g = 3)
    {rest : Led} {b gd row i1 i5 i2 G1 G5 G2 : Addr} {vs : List Value} {o1 o5 o2 : Obj} {tn tm : Tok}
    (hall : AllIn w rest lks k0 k1 k2 k3 r0 r1 r2) (hb : BufIn w rest b row vs) (hg : GdefIn w rest gd) (h2 : vs.length ≤ 100) (hl : vs.length = 3) (hx1 : (0 : Int) < vs.length) (hx5 : (0 : Int) + 1 < vs.length) (hx2 : (0 : Int) + 1 + 1 < vs.length) (hy1 : vs[(0 : Int).toNat]? = some (.ref i1)) (hy5 : vs[((0 : Int) + 1).toNat]? = some (.ref i5)) (hy2 : vs[((0 : Int) + 1 + 1).toNat]? = some (.ref i2))
    (hi1 : (i1, instObj 142 G1) ∈ rest) (hi5 : (i5, instObj 142 G5) ∈ rest) (hg5 : (G5, o5) ∈ rest) (hD5 : InfD w o5 5) (hh5 : Holds i5 G5 o5) (hi2 : (i2, instObj 142 G2) ∈ rest) (hG1 : ∀ p ∈ rest, p.1 ≠ G1) (hG2 : ∀ p ∈ rest, p.1 ≠ G2) (hGG : G1 ≠ G2) (hD1 : InfD w o1 10) (hD2 : InfD w o2 10) (hh1 : Holds i1 G1 o1) (hh2 : Holds i2 G2 o2) :
    Con w mean mg mb 674 190 1900 [.ref b, .ref gd, .ref lks, .int 0 tn, .int 1 tm] ((G1, o1) :: (G2, o2) :: rest)
      (fun kq => ∀ t o1' o2', InfD w o1' (10 + (F0 r0 r1 r2 (0, 0)).2) → InfD w o2' (10 + (F0 r0 r1 r2 (0, 0)).2) → kq (.int 2 t) ((G1, o1') :: (G2, o2') :: rest)) := by
  have hl0 : (0 : Int) ≤ 0 := by decide
  have hl1 : (0 : Int) ≤ 0 + 1 := by decide
  have hl2 : (0 : Int) ≤ 0 + 1 + 1 := by decide
  have hall2 := hall
  obtain ⟨⟨lc, hlks⟩, hk0, -⟩ := hall2
  have hk02 := hk0
  obtain ⟨tb, act, hLk, -, -⟩ := hk02
  have hLk2 := hLk
  refine hLk2.elim fun ld tl lc2 TL v9 l1 l2 l3 => ?_
  have hb2 := hb
  refine hb2.elim fun bd bc TB VB b1 b2 b3 => ?_
  unfold Con
  have hfill : (PySem.Challenge.rw_pf0148_01, hd.heap_39) = (PySem.Challenge.rw_pf0148_01, hd.heap_39) := rfl
  intro dp un gd nm cs a ccd cl outer A₀ base h₀ L m s Q E B F X N T hk hdp hun hret
  revert hfill
  k_fill
  intro hfill; clear hfill
  have hMk := kstMark
  k_with_none
  refine wpAny_call ?_
  k_dflt ktr_enter
  (k_steps; (all_goals (try ((with_reducible refine unheld ?_); (first | (refine' con_use2 ?k1_295 ?k2_295 ?k3_295 ?k4_295 ?k5_295 ?kK_295 ?kd_295 ?ku_295 ?q1_295 ?q2_295 (top_use ?e91_295 ?e92_295 ?e93_295 ?e94_295 ?e95_295 ?e96_295 ?b1_295 ?s1_295 ?b2_295 ?a1_295 ?a2_295 ?a3_295 ?m1_295 ?n1_295 ?n2_295 ?k93_295) ?_; (case k1_295 => k_asm); (case k2_295 => k_asm); (case k3_295 => k_asm); (case k4_295 => k_asm); (case k5_295 => k_asm); (case kK_295 => first | exact rfl | assumption); (case e91_295 => assumption); (case e92_295 => assumption); (case e93_295 => assumption); (case e94_295 => assumption); (case e95_295 => assumption); (case e96_295 => assumption); (case q1_295 => (walk_at "PICK")); (case q2_295 => (walk_at "PICK")); (case b1_295 => (walk_at "BUND")); (case s1_295 => walk_at "SCENE"); (case b2_295 => (walk_at "BUND")); (case a1_295 => assumption); (case a2_295 => assumption); (case a3_295 => assumption); (case m1_295 => k_mem); (case n1_295 => k_all); (case n2_295 => k_all); (case k93_295 => k_ne); (case kd_295 => ktr_room); (case ku_295 => ktr_units); k_whole;  intro t9z o9z g9z tn9z u9z w9z h9z tk9z F9z N9z; subst w9z; (try dsimp only); (try k_fold)) | (refine' con_use1 ?k1_296 ?k2_296 ?k3_296 ?k4_296 ?k5_296 ?kK_296 ?kd_296 ?ku_296 ?q1_296 (none_use ?e91_296 ?e92_296 ?e93_296 ?b1_296 ?s1_296 ?b2_296 ?a1_296 ?a2_296 ?a3_296 ?m1_296 ?f1_296 ?n1_296) ?_; (case k1_296 => k_asm); (case k2_296 => k_asm); (case k3_296 => k_asm); (case k4_296 => k_asm); (case k5_296 => k_asm); (case kK_296 => first | exact rfl | assumption); (case e91_296 => assumption); (case e92_296 => assumption); (case e93_296 => assumption); (case q1_296 => (walk_at "PICK")); (case f1_296 => k_mem); (case b1_296 => (walk_at "BUND")); (case s1_296 => walk_at "SCENE"); (case b2_296 => (walk_at "BUND")); (case a1_296 => assumption); (case a2_296 => assumption); (case a3_296 => assumption); (case m1_296 => k_mem); (case n1_296 => k_all); (case kd_296 => ktr_room); (case ku_296 => ktr_units); k_whole;  intro t9z tn9z h9z tk9z F9z N9z; (try dsimp only); (try k_fold)) | (refine' con_use ?k1_297 ?k2_297 ?k3_297 ?k4_297 ?k5_297 ?kK_297 ?kd_297 ?ku_297 (c_takes ?s1_297 ?b1_297 ?b2_297 ?b3_297 ?a1_297 ?a2_297 ?a3_297 ?a4_297 ?m1_297 ?m2_297 ?a5_297) ?_; (case k1_297 => k_asm); (case k2_297 => k_asm); (case k3_297 => k_asm); (case k4_297 => k_asm); (case k5_297 => k_asm); (case kK_297 => first | exact rfl | assumption); (case s1_297 => walk_at "SCENE"); (case b1_297 => (walk_at "BUND")); (case b2_297 => (walk_at "BUND")); (case b3_297 => (walk_at "BUND")); (case a1_297 => assumption); (case a2_297 => assumption); (case a3_297 => assumption); (case a4_297 => assumption); (case m1_297 => k_mem); (case m2_297 => k_mem); (case a5_297 => assumption); (case kd_297 => ktr_room); (case ku_297 => ktr_units); k_whole;  intro  h9z tk9z F9z N9z; (try dsimp only); (try k_fold)) | fin_once hold walk1 | fail); (try k_steps)))); (all_goals (try ((with_reducible refine unheld ?_); (first | (refine' con_use2 ?k1_298 ?k2_298 ?k3_298 ?k4_298 ?k5_298 ?kK_298 ?kd_298 ?ku_298 ?q1_298 ?q2_298 (top_use ?e91_298 ?e92_298 ?e93_298 ?e94_298 ?e95_298 ?e96_298 ?b1_298 ?s1_298 ?b2_298 ?a1_298 ?a2_298 ?a3_298 ?m1_298 ?n1_298 ?n2_298 ?k93_298) ?_; (case k1_298 => k_asm); (case k2_298 => k_asm); (case k3_298 => k_asm); (case k4_298 => k_asm); (case k5_298 => k_asm); (case kK_298 => first | exact rfl | assumption); (case e91_298 => assumption); (case e92_298 => assumption); (case e93_298 => assumption); (case e94_298 => assumption); (case e95_298 => assumption); (case e96_298 => assumption); (case q1_298 => (walk_at "PICK")); (case q2_298 => (walk_at "PICK")); (case b1_298 => (walk_at "BUND")); (case s1_298 => walk_at "SCENE"); (case b2_298 => (walk_at "BUND")); (case a1_298 => assumption); (case a2_298 => assumption); (case a3_298 => assumption); (case m1_298 => k_mem); (case n1_298 => k_all); (case n2_298 => k_all); (case k93_298 => k_ne); (case kd_298 => ktr_room); (case ku_298 => ktr_units); k_whole;  intro t9z o9z g9z tn9z u9z w9z h9z tk9z F9z N9z; subst w9z; (try dsimp only); (try k_fold)) | (refine' con_use1 ?k1_299 ?k2_299 ?k3_299 ?k4_299 ?k5_299 ?kK_299 ?kd_299 ?ku_299 ?q1_299 (none_use ?e91_299 ?e92_299 ?e93_299 ?b1_299 ?s1_299 ?b2_299 ?a1_299 ?a2_299 ?a3_299 ?m1_299 ?f1_299 ?n1_299) ?_; (case k1_299 => k_asm); (case k2_299 => k_asm); (case k3_299 => k_asm); (case k4_299 => k_asm); (case k5_299 => k_asm); (case kK_299 => first | exact rfl | assumption); (case e91_299 => assumption); (case e92_299 => assumption); (case e93_299 => assumption); (case q1_299 => (walk_at "PICK")); (case f1_299 => k_mem); (case b1_299 => (walk_at "BUND")); (case s1_299 => walk_at "SCENE"); (case b2_299 => (walk_at "BUND")); (case a1_299 => assumption); (case a2_299 => assumption); (case a3_299 => assumption); (case m1_299 => k_mem); (case n1_299 => k_all); (case kd_299 => ktr_room); (case ku_299 => ktr_units); k_whole;  intro t9z tn9z h9z tk9z F9z N9z; (try dsimp only); (try k_fold)) | (refine' con_use ?k1_300 ?k2_300 ?k3_300 ?k4_300 ?k5_300 ?kK_300 ?kd_300 ?ku_300 (c_takes ?s1_300 ?b1_300 ?b2_300 ?b3_300 ?a1_300 ?a2_300 ?a3_300 ?a4_300 ?m1_300 ?m2_300 ?a5_300) ?_; (case k1_300 => k_asm); (case k2_300 => k_asm); (case k3_300 => k_asm); (case k4_300 => k_asm); (case k5_300 => k_asm); (case kK_300 => first | exact rfl | assumption); (case s1_300 => walk_at "SCENE"); (case b1_300 => (walk_at "BUND")); (case b2_300 => (walk_at "BUND")); (case b3_300 => (walk_at "BUND")); (case a1_300 => assumption); (case a2_300 => assumption); (case a3_300 => assumption); (case a4_300 => assumption); (case m1_300 => k_mem); (case m2_300 => k_mem); (case a5_300 => assumption); (case kd_300 => ktr_room); (case ku_300 => ktr_units); k_whole;  intro  h9z tk9z F9z N9z; (try dsimp only); (try k_fold)) | fin_once hold walk1 | fail); (try k_steps)))); (all_goals (try ((with_reducible refine unheld ?_); (first | (refine' con_use2 ?k1_301 ?k2_301 ?k3_301 ?k4_301 ?k5_301 ?kK_301 ?kd_301 ?ku_301 ?q1_301 ?q2_301 (top_use ?e91_301 ?e92_301 ?e93_301 ?e94_301 ?e95_301 ?e96_301 ?b1_301 ?s1_301 ?b2_301 ?a1_301 ?a2_301 ?a3_301 ?m1_301 ?n1_301 ?n2_301 ?k93_301) ?_; (case k1_301 => k_asm); (case k2_301 => k_asm); (case k3_301 => k_asm); (case k4_301 => k_asm); (case k5_301 => k_asm); (case kK_301 => first | exact rfl | assumption); (case e91_301 => assumption); (case e92_301 => assumption); (case e93_301 => assumption); (case e94_301 => assumption); (case e95_301 => assumption); (case e96_301 => assumption); (case q1_301 => (walk_at "PICK")); (case q2_301 => (walk_at "PICK")); (case b1_301 => (walk_at "BUND")); (case s1_301 => walk_at "SCENE"); (case b2_301 => (walk_at "BUND")); (case a1_301 => assumption); (case a2_301 => assumption); (case a3_301 => assumption); (case m1_301 => k_mem); (case n1_301 => k_all); (case n2_301 => k_all); (case k93_301 => k_ne); (case kd_301 => ktr_room); (case ku_301 => ktr_units); k_whole;  intro t9z o9z g9z tn9z u9z w9z h9z tk9z F9z N9z; subst w9z; (try dsimp only); (try k_fold)) | (refine' con_use1 ?k1_302 ?k2_302 ?k3_302 ?k4_302 ?k5_302 ?kK_302 ?kd_302 ?ku_302 ?q1_302 (none_use ?e91_302 ?e92_302 ?e93_302 ?b1_302 ?s1_302 ?b2_302 ?a1_302 ?a2_302 ?a3_302 ?m1_302 ?f1_302 ?n1_302) ?_; (case k1_302 => k_asm); (case k2_302 => k_asm); (case k3_302 => k_asm); (case k4_302 => k_asm); (case k5_302 => k_asm); (case kK_302 => first | exact rfl | assumption); (case e91_302 => assumption); (case e92_302 => assumption); (case e93_302 => assumption); (case q1_302 => (walk_at "PICK")); (case f1_302 => k_mem); (case b1_302 => (walk_at "BUND")); (case s1_302 => walk_at "SCENE"); (case b2_302 => (walk_at "BUND")); (case a1_302 => assumption); (case a2_302 => assumption); (case a3_302 => assumption); (case m1_302 => k_mem); (case n1_302 => k_all); (case kd_302 => ktr_room); (case ku_302 => ktr_units); k_whole;  intro t9z tn9z h9z tk9z F9z N9z; (try dsimp only); (try k_fold)) | (refine' con_use ?k1_303 ?k2_303 ?k3_303 ?k4_303 ?k5_303 ?kK_303 ?kd_303 ?ku_303 (c_takes ?s1_303 ?b1_303 ?b2_303 ?b3_303 ?a1_303 ?a2_303 ?a3_303 ?a4_303 ?m1_303 ?m2_303 ?a5_303) ?_; (case k1_303 => k_asm); (case k2_303 => k_asm); (case k3_303 => k_asm); (case k4_303 => k_asm); (case k5_303 => k_asm); (case kK_303 => first | exact rfl | assumption); (case s1_303 => walk_at "SCENE"); (case b1_303 => (walk_at "BUND")); (case b2_303 => (walk_at "BUND")); (case b3_303 => (walk_at "BUND")); (case a1_303 => assumption); (case a2_303 => assumption); (case a3_303 => assumption); (case a4_303 => assumption); (case m1_303 => k_mem); (case m2_303 => k_mem); (case a5_303 => assumption); (case kd_303 => ktr_room); (case ku_303 => ktr_units); k_whole;  intro  h9z tk9z F9z N9z; (try dsimp only); (try k_fold)) | fin_once hold walk1 | fail); (try k_steps)))); (all_goals (try ((with_reducible refine unheld ?_); (first | (refine' con_use2 ?k1_304 ?k2_304 ?k3_304 ?k4_304 ?k5_304 ?kK_304 ?kd_304 ?ku_304 ?q1_304 ?q2_304 (top_use ?e91_304 ?e92_304 ?e93_304 ?e94_304 ?e95_304 ?e96_304 ?b1_304 ?s1_304 ?b2_304 ?a1_304 ?a2_304 ?a3_304 ?m1_304 ?n1_304 ?n2_304 ?k93_304) ?_; (case k1_304 => k_asm); (case k2_304 => k_asm); (case k3_304 => k_asm); (case k4_304 => k_asm); (case k5_304 => k_asm); (case kK_304 => first | exact rfl | assumption); (case e91_304 => assumption); (case e92_304 => assumption); (case e93_304 => assumption); (case e94_304 => assumption); (case e95_304 => assumption); (case e96_304 => assumption); (case q1_304 => (walk_at "PICK")); (case q2_304 => (walk_at "PICK")); (case b1_304 => (walk_at "BUND")); (case s1_304 => walk_at "SCENE"); (case b2_304 => (walk_at "BUND")); (case a1_304 => assumption); (case a2_304 => assumption); (case a3_304 => assumption); (case m1_304 => k_mem); (case n1_304 => k_all); (case n2_304 => k_all); (case k93_304 => k_ne); (case kd_304 => ktr_room); (case ku_304 => ktr_units); k_whole;  intro t9z o9z g9z tn9z u9z w9z h9z tk9z F9z N9z; subst w9z; (try dsimp only); (try k_fold)) | (refine' con_use1 ?k1_305 ?k2_305 ?k3_305 ?k4_305 ?k5_305 ?kK_305 ?kd_305 ?ku_305 ?q1_305 (none_use ?e91_305 ?e92_305 ?e93_305 ?b1_305 ?s1_305 ?b2_305 ?a1_305 ?a2_305 ?a3_305 ?m1_305 ?f1_305 ?n1_305) ?_; (case k1_305 => k_asm); (case k2_305 => k_asm); (case k3_305 => k_asm); (case k4_305 => k_asm); (case k5_305 => k_asm); (case kK_305 => first | exact rfl | assumption); (case e91_305 => assumption); (case e92_305 => assumption); (case e93_305 => assumption); (case q1_305 => (walk_at "PICK")); (case f1_305 => k_mem); (case b1_305 => (walk_at "BUND")); (case s1_305 => walk_at "SCENE"); (case b2_305 => (walk_at "BUND")); (case a1_305 => assumption); (case a2_305 => assumption); (case a3_305 => assumption); (case m1_305 => k_mem); (case n1_305 => k_all); (case kd_305 => ktr_room); (case ku_305 => ktr_units); k_whole;  intro t9z tn9z h9z tk9z F9z N9z; (try dsimp only); (try k_fold)) | (refine' con_use ?k1_306 ?k2_306 ?k3_306 ?k4_306 ?k5_306 ?kK_306 ?kd_306 ?ku_306 (c_takes ?s1_306 ?b1_306 ?b2_306 ?b3_306 ?a1_306 ?a2_306 ?a3_306 ?a4_306 ?m1_306 ?m2_306 ?a5_306) ?_; (case k1_306 => k_asm); (case k2_306 => k_asm); (case k3_306 => k_asm); (case k4_306 => k_asm); (case k5_306 => k_asm); (case kK_306 => first | exact rfl | assumption); (case s1_306 => walk_at "SCENE"); (case b1_306 => (walk_at "BUND")); (case b2_306 => (walk_at "BUND")); (case b3_306 => (walk_at "BUND")); (case a1_306 => assumption); (case a2_306 => assumption); (case a3_306 => assumption); (case a4_306 => assumption); (case m1_306 => k_mem); (case m2_306 => k_mem); (case a5_306 => assumption); (case kd_306 => ktr_room); (case ku_306 => ktr_units); k_whole;  intro  h9z tk9z F9z N9z; (try dsimp only); (try k_fold)) | fin_once hold walk1 | fail); (try k_steps)))); (all_goals (try ((with_reducible refine unheld ?_); (first | (refine' con_use2 ?k1_307 ?k2_307 ?k3_307 ?k4_307 ?k5_307 ?kK_307 ?kd_307 ?ku_307 ?q1_307 ?q2_307 (top_use ?e91_307 ?e92_307 ?e93_307 ?e94_307 ?e95_307 ?e96_307 ?b1_307 ?s1_307 ?b2_307 ?a1_307 ?a2_307 ?a3_307 ?m1_307 ?n1_307 ?n2_307 ?k93_307) ?_; (case k1_307 => k_asm); (case k2_307 => k_asm); (case k3_307 => k_asm); (case k4_307 => k_asm); (case k5_307 => k_asm); (case kK_307 => first | exact rfl | assumption); (case e91_307 => assumption); (case e92_307 => assumption); (case e93_307 => assumption); (case e94_307 => assumption); (case e95_307 => assumption); (case e96_307 => assumption); (case q1_307 => (walk_at "PICK")); (case q2_307 => (walk_at "PICK")); (case b1_307 => (walk_at "BUND")); (case s1_307 => walk_at "SCENE"); (case b2_307 => (walk_at "BUND")); (case a1_307 => assumption); (case a2_307 => assumption); (case a3_307 => assumption); (case m1_307 => k_mem); (case n1_307 => k_all); (case n2_307 => k_all); (case k93_307 => k_ne); (case kd_307 => ktr_room); (case ku_307 => ktr_units); k_whole;  intro t9z o9z g9z tn9z u9z w9z h9z tk9z F9z N9z; subst w9z; (try dsimp only); (try k_fold)) | (refine' con_use1 ?k1_308 ?k2_308 ?k3_308 ?k4_308 ?k5_308 ?kK_308 ?kd_308 ?ku_308 ?q1_308 (none_use ?e91_308 ?e92_308 ?e93_308 ?b1_308 ?s1_308 ?b2_308 ?a1_308 ?a2_308 ?a3_308 ?m1_308 ?f1_308 ?n1_308) ?_; (case k1_308 => k_asm); (case k2_308 => k_asm); (case k3_308 => k_asm); (case k4_308 => k_asm); (case k5_308 => k_asm); (case kK_308 => first | exact rfl | assumption); (case e91_308 => assumption); (case e92_308 => assumption); (case e93_308 => assumption); (case q1_308 => (walk_at "PICK")); (case f1_308 => k_mem); (case b1_308 => (walk_at "BUND")); (case s1_308 => walk_at "SCENE"); (case b2_308 => (walk_at "BUND")); (case a1_308 => assumption); (case a2_308 => assumption); (case a3_308 => assumption); (case m1_308 => k_mem); (case n1_308 => k_all); (case kd_308 => ktr_room); (case ku_308 => ktr_units); k_whole;  intro t9z tn9z h9z tk9z F9z N9z; (try dsimp only); (try k_fold)) | (refine' con_use ?k1_309 ?k2_309 ?k3_309 ?k4_309 ?k5_309 ?kK_309 ?kd_309 ?ku_309 (c_takes ?s1_309 ?b1_309 ?b2_309 ?b3_309 ?a1_309 ?a2_309 ?a3_309 ?a4_309 ?m1_309 ?m2_309 ?a5_309) ?_; (case k1_309 => k_asm); (case k2_309 => k_asm); (case k3_309 => k_asm); (case k4_309 => k_asm); (case k5_309 => k_asm); (case kK_309 => first | exact rfl | assumption); (case s1_309 => walk_at "SCENE"); (case b1_309 => (walk_at "BUND")); (case b2_309 => (walk_at "BUND")); (case b3_309 => (walk_at "BUND")); (case a1_309 => assumption); (case a2_309 => assumption); (case a3_309 => assumption); (case a4_309 => assumption); (case m1_309 => k_mem); (case m2_309 => k_mem); (case a5_309 => assumption); (case kd_309 => ktr_room); (case ku_309 => ktr_units); k_whole;  intro  h9z tk9z F9z N9z; (try dsimp only); (try k_fold)) | fin_once hold walk1 | fail); (try k_steps)))); (all_goals (try ((with_reducible refine unheld ?_); (first | (refine' con_use2 ?k1_310 ?k2_310 ?k3_310 ?k4_310 ?k5_310 ?kK_310 ?kd_310 ?ku_310 ?q1_310 ?q2_310 (top_use ?e91_310 ?e92_310 ?e93_310 ?e94_310 ?e95_310 ?e96_310 ?b1_310 ?s1_310 ?b2_310 ?a1_310 ?a2_310 ?a3_310 ?m1_310 ?n1_310 ?n2_310 ?k93_310) ?_; (case k1_310 => k_asm); (case k2_310 => k_asm); (case k3_310 => k_asm); (case k4_310 => k_asm); (case k5_310 => k_asm); (case kK_310 => first | exact rfl | assumption); (case e91_310 => assumption); (case e92_310 => assumption); (case e93_310 => assumption); (case e94_310 => assumption); (case e95_310 => assumption); (case e96_310 => assumption); (case q1_310 => (walk_at "PICK")); (case q2_310 => (walk_at "PICK")); (case b1_310 => (walk_at "BUND")); (case s1_310 => walk_at "SCENE"); (case b2_310 => (walk_at "BUND")); (case a1_310 => assumption); (case a2_310 => assumption); (case a3_310 => assumption); (case m1_310 => k_mem); (case n1_310 => k_all); (case n2_310 => k_all); (case k93_310 => k_ne); (case kd_310 => ktr_room); (case ku_310 => ktr_units); k_whole;  intro t9z o9z g9z tn9z u9z w9z h9z tk9z F9z N9z; subst w9z; (try dsimp only); (try k_fold)) | (refine' con_use1 ?k1_311 ?k2_311 ?k3_311 ?k4_311 ?k5_311 ?kK_311 ?kd_311 ?ku_311 ?q1_311 (none_use ?e91_311 ?e92_311 ?e93_311 ?b1_311 ?s1_311 ?b2_311 ?a1_311 ?a2_311 ?a3_311 ?m1_311 ?f1_311 ?n1_311) ?_; (case k1_311 => k_asm); (case k2_311 => k_asm); (case k3_311 => k_asm); (case k4_311 => k_asm); (case k5_311 => k_asm); (case kK_311 => first | exact rfl | assumption); (case e91_311 => assumption); (case e92_311 => assumption); (case e93_311 => assumption); (case q1_311 => (walk_at "PICK")); (case f1_311 => k_mem); (case b1_311 => (walk_at "BUND")); (case s1_311 => walk_at "SCENE"); (case b2_311 => (walk_at "BUND")); (case a1_311 => assumption); (case a2_311 => assumption); (case a3_311 => assumption); (case m1_311 => k_mem); (case n1_311 => k_all); (case kd_311 => ktr_room); (case ku_311 => ktr_units); k_whole;  intro t9z tn9z h9z tk9z F9z N9z; (try dsimp only); (try k_fold)) | (refine' con_use ?k1_312 ?k2_312 ?k3_312 ?k4_312 ?k5_312 ?kK_312 ?kd_312 ?ku_312 (c_takes ?s1_312 ?b1_312 ?b2_312 ?b3_312 ?a1_312 ?a2_312 ?a3_312 ?a4_312 ?m1_312 ?m2_312 ?a5_312) ?_; (case k1_312 => k_asm); (case k2_312 => k_asm); (case k3_312 => k_asm); (case k4_312 => k_asm); (case k5_312 => k_asm); (case kK_312 => first | exact rfl | assumption); (case s1_312 => walk_at "SCENE"); (case b1_312 => (walk_at "BUND")); (case b2_312 => (walk_at "BUND")); (case b3_312 => (walk_at "BUND")); (case a1_312 => assumption); (case a2_312 => assumption); (case a3_312 => assumption); (case a4_312 => assumption); (case m1_312 => k_mem); (case m2_312 => k_mem); (case a5_312 => assumption); (case kd_312 => ktr_room); (case ku_312 => ktr_units); k_whole;  intro  h9z tk9z F9z N9z; (try dsimp only); (try k_fold)) | fin_once hold walk1 | fail); (try k_steps)))); (all_goals (try ((with_reducible refine unheld ?_); (first | (refine' con_use2 ?k1_313 ?k2_313 ?k3_313 ?k4_313 ?k5_313 ?kK_313 ?kd_313 ?ku_313 ?q1_313 ?q2_313 (top_use ?e91_313 ?e92_313 ?e93_313 ?e94_313 ?e95_313 ?e96_313 ?b1_313 ?s1_313 ?b2_313 ?a1_313 ?a2_313 ?a3_313 ?m1_313 ?n1_313 ?n2_313 ?k93_313) ?_; (case k1_313 => k_asm); (case k2_313 => k_asm); (case k3_313 => k_asm); (case k4_313 => k_asm); (case k5_313 => k_asm); (case kK_313 => first | exact rfl | assumption); (case e91_313 => assumption); (case e92_313 => assumption); (case e93_313 => assumption); (case e94_313 => assumption); (case e95_313 => assumption); (case e96_313 => assumption); (case q1_313 => (walk_at "PICK")); (case q2_313 => (walk_at "PICK")); (case b1_313 => (walk_at "BUND")); (case s1_313 => walk_at "SCENE"); (case b2_313 => (walk_at "BUND")); (case a1_313 => assumption); (case a2_313 => assumption); (case a3_313 => assumption); (case m1_313 => k_mem); (case n1_313 => k_all); (case n2_313 => k_all); (case k93_313 => k_ne); (case kd_313 => ktr_room); (case ku_313 => ktr_units); k_whole;  intro t9z o9z g9z tn9z u9z w9z h9z tk9z F9z N9z; subst w9z; (try dsimp only); (try k_fold)) | (refine' con_use1 ?k1_314 ?k2_314 ?k3_314 ?k4_314 ?k5_314 ?kK_314 ?kd_314 ?ku_314 ?q1_314 (none_use ?e91_314 ?e92_314 ?e93_314 ?b1_314 ?s1_314 ?b2_314 ?a1_314 ?a2_314 ?a3_314 ?m1_314 ?f1_314 ?n1_314) ?_; (case k1_314 => k_asm); (case k2_314 => k_asm); (case k3_314 => k_asm); (case k4_314 => k_asm); (case k5_314 => k_asm); (case kK_314 => first | exact rfl | assumption); (case e91_314 => assumption); (case e92_314 => assumption); (case e93_314 => assumption); (case q1_314 => (walk_at "PICK")); (case f1_314 => k_mem); (case b1_314 => (walk_at "BUND")); (case s1_314 => walk_at "SCENE"); (case b2_314 => (walk_at "BUND")); (case a1_314 => assumption); (case a2_314 => assumption); (case a3_314 => assumption); (case m1_314 => k_mem); (case n1_314 => k_all); (case kd_314 => ktr_room); (case ku_314 => ktr_units); k_whole;  intro t9z tn9z h9z tk9z F9z N9z; (try dsimp only); (try k_fold)) | (refine' con_use ?k1_315 ?k2_315 ?k3_315 ?k4_315 ?k5_315 ?kK_315 ?kd_315 ?ku_315 (c_takes ?s1_315 ?b1_315 ?b2_315 ?b3_315 ?a1_315 ?a2_315 ?a3_315 ?a4_315 ?m1_315 ?m2_315 ?a5_315) ?_; (case k1_315 => k_asm); (case k2_315 => k_asm); (case k3_315 => k_asm); (case k4_315 => k_asm); (case k5_315 => k_asm); (case kK_315 => first | exact rfl | assumption); (case s1_315 => walk_at "SCENE"); (case b1_315 => (walk_at "BUND")); (case b2_315 => (walk_at "BUND")); (case b3_315 => (walk_at "BUND")); (case a1_315 => assumption); (case a2_315 => assumption); (case a3_315 => assumption); (case a4_315 => assumption); (case m1_315 => k_mem); (case m2_315 => k_mem); (case a5_315 => assumption); (case kd_315 => ktr_room); (case ku_315 => ktr_units); k_whole;  intro  h9z tk9z F9z N9z; (try dsimp only); (try k_fold)) | fin_once hold walk1 | fail); (try k_steps)))); (all_goals (try ((with_reducible refine unheld ?_); (first | (refine' con_use2 ?k1_316 ?k2_316 ?k3_316 ?k4_316 ?k5_316 ?kK_316 ?kd_316 ?ku_316 ?q1_316 ?q2_316 (top_use ?e91_316 ?e92_316 ?e93_316 ?e94_316 ?e95_316 ?e96_316 ?b1_316 ?s1_316 ?b2_316 ?a1_316 ?a2_316 ?a3_316 ?m1_316 ?n1_316 ?n2_316 ?k93_316) ?_; (case k1_316 => k_asm); (case k2_316 => k_asm); (case k3_316 => k_asm); (case k4_316 => k_asm); (case k5_316 => k_asm); (case kK_316 => first | exact rfl | assumption); (case e91_316 => assumption); (case e92_316 => assumption); (case e93_316 => assumption); (case e94_316 => assumption); (case e95_316 => assumption); (case e96_316 => assumption); (case q1_316 => (walk_at "PICK")); (case q2_316 => (walk_at "PICK")); (case b1_316 => (walk_at "BUND")); (case s1_316 => walk_at "SCENE"); (case b2_316 => (walk_at "BUND")); (case a1_316 => assumption); (case a2_316 => assumption); (case a3_316 => assumption); (case m1_316 => k_mem); (case n1_316 => k_all); (case n2_316 => k_all); (case k93_316 => k_ne); (case kd_316 => ktr_room); (case ku_316 => ktr_units); k_whole;  intro t9z o9z g9z tn9z u9z w9z h9z tk9z F9z N9z; subst w9z; (try dsimp only); (try k_fold)) | (refine' con_use1 ?k1_317 ?k2_317 ?k3_317 ?k4_317 ?k5_317 ?kK_317 ?kd_317 ?ku_317 ?q1_317 (none_use ?e91_317 ?e92_317 ?e93_317 ?b1_317 ?s1_317 ?b2_317 ?a1_317 ?a2_317 ?a3_317 ?m1_317 ?f1_317 ?n1_317) ?_; (case k1_317 => k_asm); (case k2_317 => k_asm); (case k3_317 => k_asm); (case k4_317 => k_asm); (case k5_317 => k_asm); (case kK_317 => first | exact rfl | assumption); (case e91_317 => assumption); (case e92_317 => assumption); (case e93_317 => assumption); (case q1_317 => (walk_at "PICK")); (case f1_317 => k_mem); (case b1_317 => (walk_at "BUND")); (case s1_317 => walk_at "SCENE"); (case b2_317 => (walk_at "BUND")); (case a1_317 => assumption); (case a2_317 => assumption); (case a3_317 => assumption); (case m1_317 => k_mem); (case n1_317 => k_all); (case kd_317 => ktr_room); (case ku_317 => ktr_units); k_whole;  intro t9z tn9z h9z tk9z F9z N9z; (try dsimp only); (try k_fold)) | (refine' con_use ?k1_318 ?k2_318 ?k3_318 ?k4_318 ?k5_318 ?kK_318 ?kd_318 ?ku_318 (c_takes ?s1_318 ?b1_318 ?b2_318 ?b3_318 ?a1_318 ?a2_318 ?a3_318 ?a4_318 ?m1_318 ?m2_318 ?a5_318) ?_; (case k1_318 => k_asm); (case k2_318 => k_asm); (case k3_318 => k_asm); (case k4_318 => k_asm); (case k5_318 => k_asm); (case kK_318 => first | exact rfl | assumption); (case s1_318 => walk_at "SCENE"); (case b1_318 => (walk_at "BUND")); (case b2_318 => (walk_at "BUND")); (case b3_318 => (walk_at "BUND")); (case a1_318 => assumption); (case a2_318 => assumption); (case a3_318 => assumption); (case a4_318 => assumption); (case m1_318 => k_mem); (case m2_318 => k_mem); (case a5_318 => assumption); (case kd_318 => ktr_room); (case ku_318 => ktr_units); k_whole;  intro  h9z tk9z F9z N9z; (try dsimp only); (try k_fold)) | fin_once hold walk1 | fail); (try k_steps)))); (all_goals (try ((with_reducible refine unheld ?_); (first | (refine' con_use2 ?k1_319 ?k2_319 ?k3_319 ?k4_319 ?k5_319 ?kK_319 ?kd_319 ?ku_319 ?q1_319 ?q2_319 (top_use ?e91_319 ?e92_319 ?e93_319 ?e94_319 ?e95_319 ?e96_319 ?b1_319 ?s1_319 ?b2_319 ?a1_319 ?a2_319 ?a3_319 ?m1_319 ?n1_319 ?n2_319 ?k93_319) ?_; (case k1_319 => k_asm); (case k2_319 => k_asm); (case k3_319 => k_asm); (case k4_319 => k_asm); (case k5_319 => k_asm); (case kK_319 => first | exact rfl | assumption); (case e91_319 => assumption); (case e92_319 => assumption); (case e93_319 => assumption); (case e94_319 => assumption); (case e95_319 => assumption); (case e96_319 => assumption); (case q1_319 => (walk_at "PICK")); (case q2_319 => (walk_at "PICK")); (case b1_319 => (walk_at "BUND")); (case s1_319 => walk_at "SCENE"); (case b2_319 => (walk_at "BUND")); (case a1_319 => assumption); (case a2_319 => assumption); (case a3_319 => assumption); (case m1_319 => k_mem); (case n1_319 => k_all); (case n2_319 => k_all); (case k93_319 => k_ne); (case kd_319 => ktr_room); (case ku_319 => ktr_units); k_whole;  intro t9z o9z g9z tn9z u9z w9z h9z tk9z F9z N9z; subst w9z; (try dsimp only); (try k_fold)) | (refine' con_use1 ?k1_320 ?k2_320 ?k3_320 ?k4_320 ?k5_320 ?kK_320 ?kd_320 ?ku_320 ?q1_320 (none_use ?e91_320 ?e92_320 ?e93_320 ?b1_320 ?s1_320 ?b2_320 ?a1_320 ?a2_320 ?a3_320 ?m1_320 ?f1_320 ?n1_320) ?_; (case k1_320 => k_asm); (case k2_320 => k_asm); (case k3_320 => k_asm); (case k4_320 => k_asm); (case k5_320 => k_asm); (case kK_320 => first | exact rfl | assumption); (case e91_320 => assumption); (case e92_320 => assumption); (case e93_320 => assumption); (case q1_320 => (walk_at "PICK")); (case f1_320 => k_mem); (case b1_320 => (walk_at "BUND")); (case s1_320 => walk_at "SCENE"); (case b2_320 => (walk_at "BUND")); (case a1_320 => assumption); (case a2_320 => assumption); (case a3_320 => assumption); (case m1_320 => k_mem); (case n1_320 => k_all); (case kd_320 => ktr_room); (case ku_320 => ktr_units); k_whole;  intro t9z tn9z h9z tk9z F9z N9z; (try dsimp only); (try k_fold)) | (refine' con_use ?k1_321 ?k2_321 ?k3_321 ?k4_321 ?k5_321 ?kK_321 ?kd_321 ?ku_321 (c_takes ?s1_321 ?b1_321 ?b2_321 ?b3_321 ?a1_321 ?a2_321 ?a3_321 ?a4_321 ?m1_321 ?m2_321 ?a5_321) ?_; (case k1_321 => k_asm); (case k2_321 => k_asm); (case k3_321 => k_asm); (case k4_321 => k_asm); (case k5_321 => k_asm); (case kK_321 => first | exact rfl | assumption); (case s1_321 => walk_at "SCENE"); (case b1_321 => (walk_at "BUND")); (case b2_321 => (walk_at "BUND")); (case b3_321 => (walk_at "BUND")); (case a1_321 => assumption); (case a2_321 => assumption); (case a3_321 => assumption); (case a4_321 => assumption); (case m1_321 => k_mem); (case m2_321 => k_mem); (case a5_321 => assumption); (case kd_321 => ktr_room); (case ku_321 => ktr_units); k_whole;  intro  h9z tk9z F9z N9z; (try dsimp only); (try k_fold)) | fin_once hold walk1 | fail); (try k_steps)))))
  refine' hret _ _ _ ?zi ?zj _ _ (by k_asm) (cb_drop (by assumption) ?zd)
  case zd => walk_at "SUB"
  case zi => assumption
  case zj => assumption
end
def RowIn (l : Led) (a : Addr) (r : List Int) : Prop := ∃ (vs : List Value) (c : Nat), (a, listOf vs.toArray c) ∈ l ∧ IntsAre vs r
theorem RowIn.mono {l l' : Led} {a : Addr} {r : List Int} (h : RowIn l a r) (s : ∀ p ∈ l, p ∈ l') : RowIn l' a r := let ⟨vs, c, h1, h2⟩ := h; ⟨vs, c, s _ h1, h2⟩
def RowsIn (l : Led) (D a0 a1 a2 : Addr) (r0 r1 r2 : List Int) : Prop := (∃ c : Nat, (D, listOf #[.ref a0, .ref a1, .ref a2] c) ∈ l) ∧ RowIn l a0 r0 ∧ RowIn l a1 r1 ∧ RowIn l a2 r2
theorem RowsIn.mono {l l' : Led} {D a0 a1 a2 : Addr} {r0 r1 r2 : List Int} (h : RowsIn l D a0 a1 a2 r0 r1 r2) (s : ∀ p ∈ l, p ∈ l') : RowsIn l' D a0 a1 a2 r0 r1 r2 := let ⟨⟨c, h0⟩, h1, h2, h3⟩ := h; ⟨⟨c, s _ h0⟩, h1.mono s, h2.mono s, h3.mono s⟩
local macro_rules | `(tactic| walk_at "BM") => `(tactic| ((with_reducible refine RowsIn.mono (by with_reducible assumption) ?_); walk_at "SUB"))
def WalkC (w : World) (mean : ExcName → Option Value) (mg mb : Str → Option Value) (D a0 a1 a2 : Addr) (r0 r1 r2 : List Int) (j : Int) (F : St → St) (dn cn : Nat) : Prop :=
  ∀ (rest : Led) (P : Addr) (n k : Int) (c : Nat) (t1 t2 tj : Tok), RowsIn rest D a0 a1 a2 r0 r1 r2 → (∀ p ∈ rest, p.1 ≠ P) →
    Con w mean mg mb 790 dn cn [.ref D, .int j tj, .ref P] ((P, listOf #[.int n t1, .int k t2] c) :: rest)
      (fun kq => ∀ t1' t2', kq (.none) ((P, listOf #[.int (F (n, k)).1 t1', .int (F (n, k)).2 t2'] c) :: rest))
theorem WalkC.use {w : World} {mean : ExcName → Option Value} {mg mb : Str → Option Value} {D a0 a1 a2 : Addr} {r0 r1 r2 : List Int} {j : Int} {F : St → St} {dn cn : Nat} {rest : Led} {P : Addr} {n k : Int} {c : Nat} {t1 t2 tj : Tok} (hC : WalkC w mean mg mb D a0 a1 a2 r0 r1 r2 j F dn cn) (h1 : RowsIn rest D a0 a1 a2 r0 r1 r2) (h2 : ∀ p ∈ rest, p.1 ≠ P) :
    Con w mean mg mb 790 dn cn [.ref D, .int j tj, .ref P] ((P, listOf #[.int n t1, .int k t2] c) :: rest)
      (fun kq => ∀ t1' t2', kq (.none) ((P, listOf #[.int (F (n, k)).1 t1', .int (F (n, k)).2 t2'] c) :: rest)) := hC rest P n k c t1 t2 tj h1 h2
theorem WalkC.weak {w : World} {mean : ExcName → Option Value} {mg mb : Str → Option Value} {D a0 a1 a2 : Addr} {r0 r1 r2 : List Int} {j : Int} {F : St → St} {dn cn dn' cn' : Nat} (h : WalkC w mean mg mb D a0 a1 a2 r0 r1 r2 j F dn cn) (h1 : dn ≤ dn') (h2 : cn ≤ cn') : WalkC w mean mg mb D a0 a1 a2 r0 r1 r2 j F dn' cn' :=
  fun rest P n k c t1 t2 tj a1 a2 => (h rest P n k c t1 t2 tj a1 a2).weak h1 h2
theorem ints_get : ∀ {vs : List Value} {ns : List Int}, IntsAre vs ns → ∀ {i : Nat} {v : Value}, vs[i]? = some v → ∃ (g : Int) (t : Tok), v = .int g t ∧ ns[i]? = some g
  | _, _, .nil, i, v, hv => by simp at hv
  | _, _, .cons _ _ h, 0, v, hv => by simp at hv; exact ⟨_, _, hv.symm, rfl⟩
  | _, _, .cons _ _ h, i + 1, v, hv => by
    obtain ⟨g, t, h1, h2⟩ := ints_get h (i := i) (v := v) (by simpa using hv)
    exact ⟨g, t, h1, by simpa using h2⟩
theorem stepA_plt {F : St → St} {p : St} (h : p.1 < 256) : stepA F p = F (p.1 + 1, p.2) := if_pos h
theorem stepA_pge {F : St → St} {p : St} (h : ¬ p.1 < 256) : stepA F p = p := if_neg h
section
local macro_rules | `(tactic| walk_at "pyIter ref") => `(tactic| walk_at "ITB")
local macro_rules | `(tactic| walk_at "call ref") => `(tactic| walk_at "HOLD")
local macro_rules | `(tactic| walk_at "DUMMY") => `(tactic| fail "dummy")
set_option maxHeartbeats 2000000 in
theorem c_walk {w : World} {mean : ExcName → Option Value} {mg mb : Str → Option Value} {D a0 a1 a2 aj : Addr} {r0 r1 r2 row' : List Int} {j : Int} {H : Int → St → St} {dn cn : Nat}
    (hH : ∀ g ∈ row', (g = 3 ∧ H g = leaf) ∨ (g ≠ 3 ∧ WalkC w mean mg mb D a0 a1 a2 r0 r1 r2 g (H g) dn cn)) (hj0 : 0 ≤ j) (hj3 : j < 3) (hja : [Value.ref a0, .ref a1, .ref a2][j.toNat]? = some (.ref aj)) (hrow : ∀ l, RowsIn l D a0 a1 a2 r0 r1 r2 → RowIn l aj row') :
    WalkC w mean mg mb D a0 a1 a2 r0 r1 r2 j (acts H row') (dn + 8) (cn + 40) := by
  intro rest P n k c t1 t2 tj hr hP
  obtain ⟨vs, vc, hv0, hvi⟩ := hrow _ hr
  have hr2 := hr
  obtain ⟨⟨dc, hdd⟩, -⟩ := hr2
  unfold Con
  have hfill : (PySem.Challenge.rw_pf0148_01, hd.heap_39) = (PySem.Challenge.rw_pf0148_01, hd.heap_39) := rfl
  intro dp un gd nm cs a ccd cl outer A₀ base h₀ L m s Q E B F X N T hk hdp hun hret
  revert hfill
  k_fill
  intro hfill; clear hfill
  have hMk := kstMark
  k_with_none
  refine wpAny_call ?_
  k_dflt ktr_enter
  (k_steps; (all_goals (try ((with_reducible refine unheld ?_); (first | (refine' con_use1 ?k1_322 ?k2_322 ?k3_322 ?k4_322 ?k5_322 ?kK_322 ?kd_322 ?ku_322 ?q1_322 (WalkC.use ?e91_322 ?b1_322 ?n1_322) ?_; (case k1_322 => k_asm); (case k2_322 => k_asm); (case k3_322 => k_asm); (case k4_322 => k_asm); (case k5_322 => k_asm); (case kK_322 => first | exact rfl | assumption); (case e91_322 => assumption); (case q1_322 => (walk_at "PICK")); (case b1_322 => (walk_at "BUND")); (case n1_322 => k_all); (case kd_322 => ktr_room); (case ku_322 => ktr_units); k_whole;  intro t9z tn9z h9z tk9z F9z N9z; (try dsimp only); (try k_fold)) | fin_once hold walk1 | fail); (try k_steps)))); (all_goals (try ((with_reducible refine unheld ?_); (first | (refine' con_use1 ?k1_323 ?k2_323 ?k3_323 ?k4_323 ?k5_323 ?kK_323 ?kd_323 ?ku_323 ?q1_323 (WalkC.use ?e91_323 ?b1_323 ?n1_323) ?_; (case k1_323 => k_asm); (case k2_323 => k_asm); (case k3_323 => k_asm); (case k4_323 => k_asm); (case k5_323 => k_asm); (case kK_323 => first | exact rfl | assumption); (case e91_323 => assumption); (case q1_323 => (walk_at "PICK")); (case b1_323 => (walk_at "BUND")); (case n1_323 => k_all); (case kd_323 => ktr_room); (case ku_323 => ktr_units); k_whole;  intro t9z tn9z h9z tk9z F9z N9z; (try dsimp only); (try k_fold)) | fin_once hold walk1 | fail); (try k_steps)))))
  unfold Blocked
  refine' iter_lstL (vs := vs) (nn := vc) (fun i nx => ∃ t1 t2, nx = (P, listOf #[.int (acts H (row'.take i) (n, k)).1 t1, .int (acts H (row'.take i) (n, k)).2 t2] c) :: rest) ?zh ?zl ?zF ?zN ?zj ?zt ?zd
  case zF => k_asm
  case zN => k_asm
  case zh => rfl
  case zl => k_mem
  case zj => exact ⟨_, _, rfl⟩
  case zd =>
    rintro u news₁ h tk ⟨t1', t2', rfl⟩ F₁ N₁
    rw [hvi.length, List.take_length] at N₁
    dsimp only
    (k_steps; (all_goals (try ((with_reducible refine unheld ?_); (first | (refine' con_use1 ?k1_324 ?k2_324 ?k3_324 ?k4_324 ?k5_324 ?kK_324 ?kd_324 ?ku_324 ?q1_324 (WalkC.use ?e91_324 ?b1_324 ?n1_324) ?_; (case k1_324 => k_asm); (case k2_324 => k_asm); (case k3_324 => k_asm); (case k4_324 => k_asm); (case k5_324 => k_asm); (case kK_324 => first | exact rfl | assumption); (case e91_324 => assumption); (case q1_324 => (walk_at "PICK")); (case b1_324 => (walk_at "BUND")); (case n1_324 => k_all); (case kd_324 => ktr_room); (case ku_324 => ktr_units); k_whole;  intro t9z tn9z h9z tk9z F9z N9z; (try dsimp only); (try k_fold)) | fin_once hold walk1 | fail); (try k_steps)))); (all_goals (try ((with_reducible refine unheld ?_); (first | (refine' con_use1 ?k1_325 ?k2_325 ?k3_325 ?k4_325 ?k5_325 ?kK_325 ?kd_325 ?ku_325 ?q1_325 (WalkC.use ?e91_325 ?b1_325 ?n1_325) ?_; (case k1_325 => k_asm); (case k2_325 => k_asm); (case k3_325 => k_asm); (case k4_325 => k_asm); (case k5_325 => k_asm); (case kK_325 => first | exact rfl | assumption); (case e91_325 => assumption); (case q1_325 => (walk_at "PICK")); (case b1_325 => (walk_at "BUND")); (case n1_325 => k_all); (case kd_325 => ktr_room); (case ku_325 => ktr_units); k_whole;  intro t9z tn9z h9z tk9z F9z N9z; (try dsimp only); (try k_fold)) | fin_once hold walk1 | fail); (try k_steps)))))
    exact hret _ _ _ _ (by k_asm) (by k_asm)
  case zt =>
    rintro i v news₁ h tk I oI hv ho hl₁ ⟨t1', t2', rfl⟩ F₁ N₁
    obtain ⟨goal, tg, rfl, hgo⟩ := ints_get hvi hv
    have hnext := acts_take (H := H) hgo (n, k)
    rw [hnext]
    have hHg := hH goal (List.mem_of_getElem? hgo)
    generalize acts H (row'.take i) (n, k) = p at *
    rcases hHg with ⟨hg3, hHl⟩ | ⟨hg3, hC⟩
    · rw [hHl]
      clear hH
      (k_steps; (all_goals (try ((with_reducible refine unheld ?_); (first | (refine' con_use1 ?k1_326 ?k2_326 ?k3_326 ?k4_326 ?k5_326 ?kK_326 ?kd_326 ?ku_326 ?q1_326 (WalkC.use ?e91_326 ?b1_326 ?n1_326) ?_; (case k1_326 => k_asm); (case k2_326 => k_asm); (case k3_326 => k_asm); (case k4_326 => k_asm); (case k5_326 => k_asm); (case kK_326 => first | exact rfl | assumption); (case e91_326 => assumption); (case q1_326 => (walk_at "PICK")); (case b1_326 => (walk_at "BUND")); (case n1_326 => k_all); (case kd_326 => ktr_room); (case ku_326 => ktr_units); k_whole;  intro t9z tn9z h9z tk9z F9z N9z; (try dsimp only); (try k_fold)) | fin_once hold walk1 | fail); (try k_steps)))); (all_goals (try ((with_reducible refine unheld ?_); (first | (refine' con_use1 ?k1_327 ?k2_327 ?k3_327 ?k4_327 ?k5_327 ?kK_327 ?kd_327 ?ku_327 ?q1_327 (WalkC.use ?e91_327 ?b1_327 ?n1_327) ?_; (case k1_327 => k_asm); (case k2_327 => k_asm); (case k3_327 => k_asm); (case k4_327 => k_asm); (case k5_327 => k_asm); (case kK_327 => first | exact rfl | assumption); (case e91_327 => assumption); (case q1_327 => (walk_at "PICK")); (case b1_327 => (walk_at "BUND")); (case n1_327 => k_all); (case kd_327 => ktr_room); (case ku_327 => ktr_units); k_whole;  intro t9z tn9z h9z tk9z F9z N9z; (try dsimp only); (try k_fold)) | fin_once hold walk1 | fail); (try k_steps)))))
      all_goals unfold Blocked
      all_goals first | rw [stepA_plt (by omega)] | rw [stepA_pge (by omega)]
      all_goals
        refine' turn_end ?ua ?ub ?uc ?ud ⟨?ul, ⟨_, _, rfl⟩, ?us⟩
        case ua => k_asm
        case ub => k_asm
        case uc => walk_at "SUB"
        case ud => k_all
        case ul => k_mem
        case us => exact fun z hz => if_neg hz
    · clear hH
      (k_steps; (all_goals (try ((with_reducible refine unheld ?_); (first | (refine' con_use1 ?k1_328 ?k2_328 ?k3_328 ?k4_328 ?k5_328 ?kK_328 ?kd_328 ?ku_328 ?q1_328 (WalkC.use ?e91_328 ?b1_328 ?n1_328) ?_; (case k1_328 => k_asm); (case k2_328 => k_asm); (case k3_328 => k_asm); (case k4_328 => k_asm); (case k5_328 => k_asm); (case kK_328 => first | exact rfl | assumption); (case e91_328 => assumption); (case q1_328 => (walk_at "PICK")); (case b1_328 => (walk_at "BUND")); (case n1_328 => k_all); (case kd_328 => ktr_room); (case ku_328 => ktr_units); k_whole;  intro t9z tn9z h9z tk9z F9z N9z; (try dsimp only); (try k_fold)) | fin_once hold walk1 | fail); (try k_steps)))); (all_goals (try ((with_reducible refine unheld ?_); (first | (refine' con_use1 ?k1_329 ?k2_329 ?k3_329 ?k4_329 ?k5_329 ?kK_329 ?kd_329 ?ku_329 ?q1_329 (WalkC.use ?e91_329 ?b1_329 ?n1_329) ?_; (case k1_329 => k_asm); (case k2_329 => k_asm); (case k3_329 => k_asm); (case k4_329 => k_asm); (case k5_329 => k_asm); (case kK_329 => first | exact rfl | assumption); (case e91_329 => assumption); (case q1_329 => (walk_at "PICK")); (case b1_329 => (walk_at "BUND")); (case n1_329 => k_all); (case kd_329 => ktr_room); (case ku_329 => ktr_units); k_whole;  intro t9z tn9z h9z tk9z F9z N9z; (try dsimp only); (try k_fold)) | fin_once hold walk1 | fail); (try k_steps)))))
      all_goals unfold Blocked
      all_goals first | rw [stepA_plt (by omega)] | rw [stepA_pge (by omega)]
      all_goals
        refine' turn_end ?ua ?ub ?uc ?ud ⟨?ul, ⟨_, _, rfl⟩, ?us⟩
        case ua => k_asm
        case ub => k_asm
        case uc => walk_at "SUB"
        case ud => k_all
        case ul => k_mem
        case us => exact fun z hz => if_neg hz
end
theorem walk_two {w : World} {mean : ExcName → Option Value} {mg mb : Str → Option Value} {D a0 a1 a2 : Addr} {r0 r1 r2 : List Int} (q2 : ∀ g ∈ r2, g = 3) : WalkC w mean mg mb D a0 a1 a2 r0 r1 r2 2 (F2 r2) 40 400 :=
  (c_walk (dn := 0) (cn := 0) (H := HL leaf) (row' := r2) (aj := a2) (fun g hg => .inl ⟨q2 g hg, by rw [q2 g hg, HL_3]⟩) (by decide) (by decide) rfl (fun l h => h.2.2.2)).weak (by decide) (by decide)
theorem walk_one {w : World} {mean : ExcName → Option Value} {mg mb : Str → Option Value} {D a0 a1 a2 : Addr} {r0 r1 r2 : List Int} (q1 : ∀ g ∈ r1, g = 2 ∨ g = 3) (q2 : ∀ g ∈ r2, g = 3) : WalkC w mean mg mb D a0 a1 a2 r0 r1 r2 1 (F1 r1 r2) 48 440 :=
  c_walk (H := HL (F2 r2)) (row' := r1) (aj := a1) (fun g hg => (q1 g hg).elim (fun e => .inr ⟨by rw [e]; decide, by rw [e, HL_ne (by decide)]; exact walk_two q2⟩) (fun e => .inl ⟨e, by rw [e, HL_3]⟩)) (by decide) (by decide) rfl (fun l h => h.2.2.1)
theorem walk_top {w : World} {mean : ExcName → Option Value} {mg mb : Str → Option Value} {D a0 a1 a2 : Addr} {r0 r1 r2 : List Int} (q0 : ∀ g ∈ r0, g = 1 ∨ g = 3) (q1 : ∀ g ∈ r1, g = 2 ∨ g = 3) (q2 : ∀ g ∈ r2, g = 3) : WalkC w mean mg mb D a0 a1 a2 r0 r1 r2 0 (F0 r0 r1 r2) 56 480 :=
  c_walk (H := HL (F1 r1 r2)) (row' := r0) (aj := a0) (fun g hg => (q0 g hg).elim (fun e => .inr ⟨by rw [e]; decide, by rw [e, HL_ne (by decide)]; exact walk_one q1 q2⟩) (fun e => .inl ⟨e, by rw [e, HL_3]⟩)) (by decide) (by decide) rfl (fun l h => h.2.1)
def RowOk (rest : Led) (a : Addr) (r : List Int) (j : Int) : Prop := RowIn rest a r ∧ (∀ g ∈ r, g = j ∨ g = 3) ∧ r.length ≤ 100
theorem RowOk.mono {l l' : Led} {a : Addr} {r : List Int} {j : Int} (h : RowOk l a r j) (s : ∀ p ∈ l, p ∈ l') : RowOk l' a r j := ⟨h.1.mono s, h.2⟩
/-- the ledger of the law's first loop, after i turns -/
def JA (D P cl : Addr) (vs : List Value) : Nat → Led → Prop
  | 0, nx => ∃ rest c c2 c3 t, nx = (D, listOf #[] c) :: (P, listOf #[.ref cl, .int 0 t] c2) :: rest ∧ (cl, listOf vs.toArray c3) ∈ rest ∧ (∀ p ∈ rest, p.1 ≠ D) ∧ (∀ p ∈ rest, p.1 ≠ P) ∧ D ≠ P
  | 1, nx => ∃ rest c c2 c3 t a0 r0, nx = (D, listOf #[.ref a0] c) :: (P, listOf #[.ref cl, .int (0 + 1 + 1 + 1) t] c2) :: rest ∧ (cl, listOf vs.toArray c3) ∈ rest ∧ (∀ p ∈ rest, p.1 ≠ D) ∧ (∀ p ∈ rest, p.1 ≠ P) ∧ D ≠ P ∧ RowOk rest a0 r0 1
  | 2, nx => ∃ rest c c2 c3 t a0 r0 a1 r1, nx = (D, listOf #[.ref a0, .ref a1] c) :: (P, listOf #[.ref cl, .int (0 + 1 + 1 + 1 + 1 + 1 + 1) t] c2) :: rest ∧ (cl, listOf vs.toArray c3) ∈ rest ∧ (∀ p ∈ rest, p.1 ≠ D) ∧ (∀ p ∈ rest, p.1 ≠ P) ∧ D ≠ P ∧ RowOk rest a0 r0 1 ∧ RowOk rest a1 r1 2
  | _, nx => ∃ rest c c2 c3 t a0 r0 a1 r1 a2 r2, nx = (D, listOf #[.ref a0, .ref a1, .ref a2] c) :: (P, listOf #[.ref cl, .int (0 + 1 + 1 + 1 + 1 + 1 + 1 + 1 + 1 + 1) t] c2) :: rest ∧ (cl, listOf vs.toArray c3) ∈ rest ∧ (∀ p ∈ rest, p.1 ≠ D) ∧ (∀ p ∈ rest, p.1 ≠ P) ∧ D ≠ P ∧ RowOk rest a0 r0 1 ∧ RowOk rest a1 r1 2 ∧ RowOk rest a2 r2 3
def JM (m₀ : Str → Option Value) (m : Str → Option Value) : Prop := ∀ z, z ≠ Str.ofString "number" → z ≠ Str.ofString "inner" → z ≠ Str.ofString "turns" → m z = m₀ z
theorem JM.eq {m₀ m : Str → Option Value} (h : JM m₀ m) : m = fun y => if y = Str.ofString "number" then m y else if y = Str.ofString "inner" then m y else if y = Str.ofString "turns" then m y else m₀ y := by
  funext y
  by_cases h1 : y = Str.ofString "number"
  · simp only [if_pos h1]
  · by_cases h2 : y = Str.ofString "inner"
    · simp only [if_neg h1, if_pos h2]
    · by_cases h3 : y = Str.ofString "turns"
      · simp only [if_neg h1, if_neg h2, if_pos h3]
      · simp only [if_neg h1, if_neg h2, if_neg h3]; exact h y h1 h2 h3
def JL (m₀ : Str → Option Value) (D P cl : Addr) (vs : List Value) (i : Nat) (m : Str → Option Value) (nx : Led) : Prop := JM m₀ m ∧ JA D P cl vs i nx
theorem rep_mem {n : Nat} {x g : Int} (h : g ∈ (List.replicate n [x]).flatten) : g = x := by
  obtain ⟨l, h1, h2⟩ := List.mem_flatten.mp h
  rw [(List.mem_replicate.mp h1).2] at h2
  exact List.mem_singleton.mp h2
theorem rep_row {n k : Nat} {x j : Int} (h : x = j) : ∀ g ∈ (List.replicate n [x]).flatten ++ (List.replicate k [3]).flatten, g = j ∨ g = 3 := fun g hg => (List.mem_append.mp hg).elim (fun a => .inl ((rep_mem a).trans h)) (fun a => .inr (rep_mem a))
theorem rep_row' {n k : Nat} {x j : Int} (h : x = j) : ∀ g ∈ (List.replicate k [3]).flatten ++ (List.replicate n [x]).flatten, g = j ∨ g = 3 := fun g hg => (List.mem_append.mp hg).elim (fun a => .inr (rep_mem a)) (fun a => .inl ((rep_mem a).trans h))
theorem rep_len {n k : Nat} {x y : Int} (h1 : n ≤ 50) (h2 : k ≤ 50) : ((List.replicate n [x]).flatten ++ (List.replicate k [y]).flatten).length ≤ 100 := by
  rw [List.flatten_replicate_singleton, List.flatten_replicate_singleton, List.length_append, List.length_replicate, List.length_replicate]
  omega
theorem all_cons {a : Addr} {o : Obj} {D : Addr} {l : Led} (h : a ≠ D) (h1 : ∀ p ∈ l, p.1 ≠ D) : ∀ p ∈ (a, o) :: l, p.1 ≠ D := List.forall_mem_cons.mpr ⟨h, h1⟩
theorem RowOk.up {l : Led} {a : Addr} {r : List Int} {j : Int} {p : Addr × Obj} (h : RowOk l a r j) : RowOk (p :: l) a r j := h.mono fun _ hp => .tail _ hp
theorem JA.one {D P cl a : Addr} {vs ws : List Value} {rest : Led} {c c2 c3 : Nat} {t : Tok} {r : List Int} (h1 : (cl, listOf vs.toArray c3) ∈ rest) (h2 : ∀ p ∈ rest, p.1 ≠ D) (h3 : ∀ p ∈ rest, p.1 ≠ P) (h4 : D ≠ P) (h5 : a ≠ D) (h6 : a ≠ P) (h7 : IntsAre ws r) (h8 : ∀ g ∈ r, g = 1 ∨ g = 3) (h9 : r.length ≤ 100) :
    JA D P cl vs 1 ((D, listOf (#[].push (.ref a)) c) :: (P, listOf #[.ref cl, .int (0 + 1 + 1 + 1) t] c2) :: (a, listOf ws.toArray 0) :: rest) :=
  ⟨_, _, _, _, _, _, r, rfl, .tail _ h1, all_cons h5 h2, all_cons h6 h3, h4, ⟨⟨ws, 0, .head _, h7⟩, h8, h9⟩⟩
theorem JA.two {D P cl a a0 : Addr} {vs ws : List Value} {rest : Led} {c c2 c3 : Nat} {t : Tok} {r r0 : List Int} (h1 : (cl, listOf vs.toArray c3) ∈ rest) (h2 : ∀ p ∈ rest, p.1 ≠ D) (h3 : ∀ p ∈ rest, p.1 ≠ P) (h4 : D ≠ P) (h5 : a ≠ D) (h6 : a ≠ P) (h7 : IntsAre ws r) (h8 : ∀ g ∈ r, g = 2 ∨ g = 3) (h9 : r.length ≤ 100) (q0 : RowOk rest a0 r0 1) :
    JA D P cl vs 2 ((D, listOf (#[.ref a0].push (.ref a)) c) :: (P, listOf #[.ref cl, .int (0 + 1 + 1 + 1 + 1 + 1 + 1) t] c2) :: (a, listOf ws.toArray 0) :: rest) :=
  ⟨_, _, _, _, _, _, r0, _, r, rfl, .tail _ h1, all_cons h5 h2, all_cons h6 h3, h4, q0.up, ⟨⟨ws, 0, .head _, h7⟩, h8, h9⟩⟩
theorem JA.three {D P cl a a0 a1 : Addr} {vs ws : List Value} {rest : Led} {c c2 c3 : Nat} {t : Tok} {r r0 r1 : List Int} (h1 : (cl, listOf vs.toArray c3) ∈ rest) (h2 : ∀ p ∈ rest, p.1 ≠ D) (h3 : ∀ p ∈ rest, p.1 ≠ P) (h4 : D ≠ P) (h5 : a ≠ D) (h6 : a ≠ P) (h7 : IntsAre ws r) (h8 : ∀ g ∈ r, g = 3 ∨ g = 3) (h9 : r.length ≤ 100) (q0 : RowOk rest a0 r0 1) (q1 : RowOk rest a1 r1 2) :
    JA D P cl vs 3 ((D, listOf (#[.ref a0, .ref a1].push (.ref a)) c) :: (P, listOf #[.ref cl, .int (0 + 1 + 1 + 1 + 1 + 1 + 1 + 1 + 1 + 1) t] c2) :: (a, listOf ws.toArray 0) :: rest) :=
  ⟨_, _, _, _, _, _, r0, _, r1, _, r, rfl, .tail _ h1, all_cons h5 h2, all_cons h6 h3, h4, q0.up, q1.up, ⟨⟨ws, 0, .head _, h7⟩, h8, h9⟩⟩
theorem JL.start {m₀ : Str → Option Value} {D P cl : Addr} {ys : List Value} {rest : Led} {c c2 : Nat} {t : Tok} (h1 : ∀ p ∈ (cl, LCg.lst ys) :: rest, p.1 ≠ D) (h2 : ∀ p ∈ (cl, LCg.lst ys) :: rest, p.1 ≠ P) (h3 : D ≠ P) : JL m₀ D P cl ys 0 m₀ ((D, listOf #[] c) :: (P, listOf #[.ref cl, .int 0 t] c2) :: (cl, LCg.lst ys) :: rest) :=
  ⟨fun _ _ _ _ => rfl, _, _, _, _, _, rfl, List.Mem.head _, h1, h2, h3⟩
inductive LksAre (w : World) (l : Led) : List Value → List (List Int) → Prop
  | nil : LksAre w l [] []
  | snoc {k : Addr} {vs : List Value} {r : List Int} {rows : List (List Int)} : LksAre w l vs rows → ChainLk w l k r → LksAre w l (vs ++ [.ref k]) (rows ++ [r])
theorem LksAre.mono {w : World} {l l' : Led} {vs : List Value} {rows : List (List Int)} (h : LksAre w l vs rows) (s : ∀ p ∈ l, p ∈ l') : LksAre w l' vs rows := by
  induction h with
  | nil => exact .nil
  | snoc _ hk ih => exact .snoc ih (hk.mono s)
/-- what the ledger holds ahead of the loop that builds the lookups -/
abbrev Mid (w : World) (h₀ : Heap) (L : Addr) (h : Heap) (K D cov no bt : Addr) (c n : Nat) (t : Tok) (a0 a1 a2 : Addr) (r0 r1 r2 : List Int) (base : Led) : Prop :=
  News h₀ L h ((K, listOf #[] 0) :: base) ∧ (∀ p ∈ base, p.1 ≠ K) ∧ (D, listOf #[.ref a0, .ref a1, .ref a2] c) ∈ base ∧ CovIn w base cov ∧ NoneIn w base no ∧ RowOk base a0 r0 1 ∧ RowOk base a1 r1 2 ∧ RowOk base a2 r2 3 ∧ (bt, listOf (List.replicate n [Value.int 5 t]).flatten.toArray 0) ∈ base
/-- the ledger of the loop that builds the lookups -/
def LA (w : World) (K : Addr) (base : Led) (rows : List (List Int)) (i : Nat) (nx : Led) : Prop := ∃ rest ks c, nx = (K, listOf ks.toArray c) :: rest ∧ (∀ p ∈ base, p ∈ rest) ∧ (∀ p ∈ rest, p.1 ≠ K) ∧ LksAre w rest ks (rows.take i)
def LM (m₀ : Str → Option Value) (m : Str → Option Value) : Prop := ∀ z, z ≠ Str.ofString "row" → z ≠ Str.ofString "rule" → m z = m₀ z
theorem LM.eq {m₀ m : Str → Option Value} (h : LM m₀ m) : m = fun y => if y = Str.ofString "row" then m y else if y = Str.ofString "rule" then m y else m₀ y := by
  funext y
  by_cases h1 : y = Str.ofString "row"
  · simp only [if_pos h1]
  · by_cases h2 : y = Str.ofString "rule"
    · simp only [if_neg h1, if_pos h2]
    · simp only [if_neg h1, if_neg h2]; exact h y h1 h2
def LL (w : World) (m₀ : Str → Option Value) (K : Addr) (base : Led) (rows : List (List Int)) (i : Nat) (m : Str → Option Value) (nx : Led) : Prop := LM m₀ m ∧ LA w K base rows i nx
theorem LL.start {w : World} {m₀ : Str → Option Value} {K : Addr} {base : Led} {rows : List (List Int)} {c : Nat} (h : ∀ p ∈ base, p.1 ≠ K) : LL w m₀ K base rows 0 m₀ ((K, listOf #[] c) :: base) := ⟨fun _ _ _ => rfl, base, [], c, rfl, fun _ h => h, h, .nil⟩
theorem rows_get {base : Led} {a0 a1 a2 : Addr} {r0 r1 r2 : List Int} {i : Nat} {v : Value} (hv : [Value.ref a0, .ref a1, .ref a2][i]? = some v) (h0 : RowOk base a0 r0 1) (h1 : RowOk base a1 r1 2) (h2 : RowOk base a2 r2 3) :
    ∃ a r, v = .ref a ∧ [r0, r1, r2][i]? = some r ∧ RowIn base a r ∧ r.length ≤ 100 := by
  match i, hv with
  | 0, hv => exact ⟨a0, r0, by simpa using hv.symm, rfl, h0.1, h0.2.2⟩
  | 1, hv => exact ⟨a1, r1, by simpa using hv.symm, rfl, h1.1, h1.2.2⟩
  | 2, hv => exact ⟨a2, r2, by simpa using hv.symm, rfl, h2.1, h2.2.2⟩
  | i + 3, hv => simp at hv
theorem comp_endS {I C D : Addr} {s₁ : Shared} {oI oC oD : Obj} {S : Led → Prop} {rest : Value → Led → Prop} {y : Value} {h₀ h' : Heap} {L : Addr} {m : Str → Option Value} {tk : Nat} {all nx : Led}
    (F : Fr h₀ L h' m) (N : News h₀ L h' all) (sub : ∀ p ∈ (I, oI) :: (C, oC) :: (D, oD) :: nx, p ∈ all) (off : LCg.Off3 I C D nx) (hS : S nx) (r : rest y nx) :
    LCg.CompEnd h₀ L m s₁ I oI C oC D oD S rest y { s₁ with heap := h', toks := tk } := LCg.CompEnd.intro F N nx sub off hS r
/-- the ledger while the actions of a row are built -/
def CA (x1 x2 x3 x4 x5 : Addr × Obj) (row : List Int) (rest : Led) (i : Nat) (ys : List Value) (nx : Led) : Prop := ∃ nr, nx = x1 :: x2 :: x3 :: x4 :: x5 :: nr ∧ (∀ p ∈ rest, p ∈ nr) ∧ (∀ p ∈ nr, p.1 ≠ x1.1) ∧ (∀ p ∈ nr, p.1 ≠ x2.1) ∧ (∀ p ∈ nr, p.1 ≠ x3.1) ∧ (∀ p ∈ nr, p.1 ≠ x4.1) ∧ (∀ p ∈ nr, p.1 ≠ x5.1) ∧ ActsAre nr ys (row.take i)
theorem CA.start {x1 x2 x3 x4 x5 : Addr × Obj} {row : List Int} {rest : Led} (h1 : ∀ p ∈ rest, p.1 ≠ x1.1) (h2 : ∀ p ∈ rest, p.1 ≠ x2.1) (h3 : ∀ p ∈ rest, p.1 ≠ x3.1) (h4 : ∀ p ∈ rest, p.1 ≠ x4.1) (h5 : ∀ p ∈ rest, p.1 ≠ x5.1) : CA x1 x2 x3 x4 x5 row rest 0 [] (x1 :: x2 :: x3 :: x4 :: x5 :: rest) :=
  ⟨rest, rfl, fun _ h => h, h1, h2, h3, h4, h5, .nil⟩
theorem ActsAre.snoc {l : Led} {vs : List Value} {row : List Int} {a : Addr} {t0 tg : Tok} {n : Nat} {g : Int} (h : ActsAre l vs row) (hm : (a, tupO [.int 0 t0, .int g tg] n) ∈ l) : ActsAre l (vs ++ [.ref a]) (row ++ [g]) := by
  induction h with
  | nil => exact .cons hm .nil
  | cons hm' _ ih => exact .cons hm' ih
theorem CA.next {x1 x2 x3 x4 x5 : Addr × Obj} {row : List Int} {rest nr : Led} {i : Nat} {ys : List Value} {a : Addr} {t0 tg : Tok} {n : Nat} {g : Int} (hg : row[i]? = some g) (hs : ∀ p ∈ rest, p ∈ nr) (h1 : ∀ p ∈ nr, p.1 ≠ x1.1) (h2 : ∀ p ∈ nr, p.1 ≠ x2.1) (h3 : ∀ p ∈ nr, p.1 ≠ x3.1) (h4 : ∀ p ∈ nr, p.1 ≠ x4.1) (h5 : ∀ p ∈ nr, p.1 ≠ x5.1) (hA : ActsAre nr ys (row.take i))
    (e1 : a ≠ x1.1) (e2 : a ≠ x2.1) (e3 : a ≠ x3.1) (e4 : a ≠ x4.1) (e5 : a ≠ x5.1) : CA x1 x2 x3 x4 x5 row rest (i + 1) (ys ++ [.ref a]) (x1 :: x2 :: x3 :: x4 :: x5 :: (a, tupO [.int 0 t0, .int g tg] n) :: nr) :=
  ⟨_, rfl, fun p hp => .tail _ (hs p hp), all_cons e1 h1, all_cons e2 h2, all_cons e3 h3, all_cons e4 h4, all_cons e5 h5, by
    rw [List.take_add_one, hg]
    exact (hA.mono fun _ hp => .tail _ hp).snoc (.head _)⟩
theorem size_le {ys : List Value} (h : ys.length ≤ 100) : ys.toArray.size ≤ 16384 := by rw [List.size_toArray]; omega
section
variable {prog : Program} {w : World} {A : Around} {E : Value → Shared → Prop} {s : Shared} {h₀ : Heap} {L : Addr} {m : Str → Option Value} {news : Led}
theorem tup_in {vs : List Value} {Q : Value → Shared → Prop} (F : Fr h₀ L s.heap m) (N : News h₀ L s.heap news) (hz : vs.length ≤ sizeLine)
    (h : ∀ d h', Fr h₀ L h' m → News h₀ L h' ((d, tupO vs 0) :: news) → (∀ p ∈ news, p.1 ≠ d) → Q (.ref d) { s with heap := h' }) : wpAny (model prog w) A (newTuple vs) Q E s :=
  wpAny_newTuple (h _ _ (F.push _) (News.push F N _) fun p hp => Nat.ne_of_lt (Heap.lt_size (N p hp).1)) hz
theorem lst_in {vs : List Value} {Q : Value → Shared → Prop} (F : Fr h₀ L s.heap m) (N : News h₀ L s.heap news) (hz : vs.length ≤ sizeLine)
    (h : ∀ d h', Fr h₀ L h' m → News h₀ L h' ((d, listOf vs.toArray 0) :: news) → (∀ p ∈ news, p.1 ≠ d) → Q (.ref d) { s with heap := h' }) : wpAny (model prog w) A (newList vs) Q E s :=
  wpAny_newList (h _ _ (F.push _) (News.push F N _) fun p hp => Nat.ne_of_lt (Heap.lt_size (N p hp).1)) hz
theorem tup_of {l : Addr} {zs : List Value} {n : Nat} {Q : Value → Shared → Prop} (F : Fr h₀ L s.heap m) (N : News h₀ L s.heap news) (hl : (l, listOf zs.toArray n) ∈ news) (hz : zs.length ≤ 300)
    (h : ∀ d h', Fr h₀ L h' m → News h₀ L h' ((d, tupO zs 0) :: news) → (∀ p ∈ news, p.1 ≠ d) → Q (.ref d) { s with heap := h' }) : wpAny (model prog w) A (call (.type "tuple") [.ref l]) Q E s :=
  kde_tupleOf F N (isl N hl) (by rw [List.size_toArray]; omega) rfl fun d h' F' N' l1 => h d h' F' N' fun p hp => Nat.ne_of_lt (l1 p hp)
end
theorem LksAre.length {w : World} {l : Led} {vs : List Value} {rows : List (List Int)} (h : LksAre w l vs rows) : vs.length = rows.length := by
  induction h with
  | nil => rfl
  | snoc _ _ ih => simp [ih]
theorem LL.next {w : World} {m₀ m : Str → Option Value} {K : Addr} {base nr : Led} {rows : List (List Int)} {i c' : Nat} {ks : List Value} {k ld tl tb td cl rl st ru rd act e1 i1 e2 cov no : Addr} {o : Obj} {ys : List Value} {row : List Int} {n1 n2 n3 n4 n5 n6 n7 : Nat}
    {tz : Tok} {TL TT TR : Nat → Tok} {v3 : Value}
    (hm : LM m₀ m) (hb : ∀ p ∈ base, p ∈ nr) (hK : ∀ p ∈ nr, p.1 ≠ K) (hk : LksAre w nr ks (rows.take i)) (hr : rows[i]? = some row) (hcov : CovIn w nr cov) (hno : NoneIn w nr no) (hact : ActsAre nr ys row) (hst : (st == sysModules) = false) (hD : o.IsDictOf (PySem.intKind PR w) [(0, .ref rl)])
    (p1 : k ≠ K) (p2 : ld ≠ K) (p3 : tl ≠ K) (p4 : tb ≠ K) (p5 : td ≠ K) (p6 : cl ≠ K) (p7 : rl ≠ K) (p8 : st ≠ K) (p9 : ru ≠ K) (p10 : rd ≠ K) (p11 : act ≠ K) (p12 : e1 ≠ K) (p13 : i1 ≠ K) (p14 : e2 ≠ K) :
    LL w m₀ K base rows (i + 1) m ((K, listOf (ks.toArray.push (.ref k)) c') ::
      (k, instObj 43 ld) :: (ld, lkO w "chain" tl TL v3) :: (tl, listOf #[.ref tb] n1) ::
      (tb, instObj 479 td) :: (td, tabO w st cov cl TT) :: (st, o) :: (rl, listOf #[.ref ru] n2) :: (cl, tupO [.ref no, .ref no, .ref no] n3) ::
      (ru, instObj 438 rd) :: (rd, ruleO w e1 i1 e2 act TR) :: (e1, tupO [] n4) :: (i1, tupO [.int 0 tz] n5) :: (e2, tupO [] n6) :: (act, tupO ys n7) :: nr) := by
  refine ⟨hm, _, ks ++ [.ref k], c', by rw [List.push_toArray], fun p hp => ?_, ?_, ?_⟩
  · have := hb p hp
    repeat (refine List.mem_cons_of_mem _ ?_)
    exact this
  · exact all_cons p1 (all_cons p2 (all_cons p3 (all_cons p4 (all_cons p5 (all_cons p8 (all_cons p7 (all_cons p6 (all_cons p9 (all_cons p10 (all_cons p12 (all_cons p13 (all_cons p14 (all_cons p11 hK)))))))))))))
  · rw [List.take_add_one, hr]
    have up : ∀ {x1 x2 x3 x4 x5 x6 x7 x8 x9 x10 x11 x12 x13 x14 : Addr × Obj}, ∀ p ∈ nr, p ∈ x1 :: x2 :: x3 :: x4 :: x5 :: x6 :: x7 :: x8 :: x9 :: x10 :: x11 :: x12 :: x13 :: x14 :: nr := fun p hp => by
      repeat (refine List.mem_cons_of_mem _ ?_)
      exact hp
    refine (hk.mono up).snoc ⟨tb, act, ⟨ld, tl, n1, TL, v3, .head _, .tail _ (.head _), .tail _ (.tail _ (.head _))⟩, ?_, ys, n7, ?_, hact.mono up⟩
    · refine ⟨td, st, rl, ru, cov, cl, no, o, n2, n3, TT, ?_, ?_, ?_, hst, hD, ?_, ⟨rd, e1, i1, e2, fun i => [0, n4, n5, n6].getD i 0, fun i => if i = 0 then tz else TR i, ?_, ?_, ?_, ?_, ?_⟩, hcov.mono up, ?_, hno.mono up⟩
      all_goals
        repeat (first | exact List.Mem.head _ | refine List.mem_cons_of_mem _ ?_)
    · repeat (first | exact List.Mem.head _ | refine List.mem_cons_of_mem _ ?_)
theorem arr_le {ks : List Value} (h : ks.length ≤ 100) : ks.toArray.size ≤ sizeLine := by rw [List.size_toArray, sizeLine_eq]; omega
section
variable {prog : Program} {w : World} {A : Around} {E : Value → Shared → Prop} {s : Shared} {h₀ : Heap} {L : Addr} {m : Str → Option Value} {l : Led}
/-- list.append, told for all parts of the ledger that leave the list out -/
theorem append_S {K : Addr} {its : Array Value} {n : Nat} {x : Value} {Q : Value → Shared → Prop} (F : Fr h₀ L s.heap m) (N : News h₀ L s.heap l) (hK : (K, listOf its n) ∈ l) (hz : its.size ≤ sizeLine)
    (h : ∀ h', Fr h₀ L h' m → (∀ nx, (∀ p ∈ nx, p ∈ l) → (∀ p ∈ nx, p.1 ≠ K) → News h₀ L h' ((K, listOf (its.push x) (n + 1)) :: nx)) → Q .none { s with heap := h' }) :
    wpAny (model prog w) A (call (.builtin "list.append") [.ref K, x]) Q E s := by
  have z := N _ hK
  refine append_at (hsz := hz) z.1 fun h' hs ho' => h h' (F.change hs z.2.1 z.2.2) fun nx h1 h2 => ?_
  exact news_set (pre := []) (fun p hp => N p ((List.mem_cons.mp hp).elim (fun e => e ▸ hK) (h1 p))) (fun _ h => nomatch h) h2 hs ho'
end
theorem off3_ins {I C D : Addr} {x1 x2 x3 x4 x5 a : Addr × Obj} {nr : Led} (h : LCg.Off3 I C D (x1 :: x2 :: x3 :: x4 :: x5 :: nr)) (h1 : a.1 ≠ I) (h2 : a.1 ≠ C) (h3 : a.1 ≠ D) : LCg.Off3 I C D (x1 :: x2 :: x3 :: x4 :: x5 :: a :: nr) :=
  ⟨h.1, h.2.1, h.2.2.1, h.2.2.2.1, h.2.2.2.2.1, ⟨h1, h2, h3⟩, h.2.2.2.2.2⟩
theorem CA.turn {x1 x2 x3 x4 x5 : Addr × Obj} {row : List Int} {rest nr : Led} {i n ka : Nat} {ys : List Value} {T I C D L ax : Addr} {oI oC oD : Obj} {t0 tg : Tok} {g : Int} {h₀ h' : Heap} {m : Str → Option Value} {s₁ : Shared} {tk : Nat} {its : Array Value}
    (hg : row[i]? = some g) (hax : (ax, ({ cls := .type "list", data := .seq its ka } : Obj)) ∈ rest) (hs : ∀ p ∈ rest, p ∈ nr) (h1 : ∀ p ∈ nr, p.1 ≠ x1.1) (h2 : ∀ p ∈ nr, p.1 ≠ x2.1) (h3 : ∀ p ∈ nr, p.1 ≠ x3.1) (h4 : ∀ p ∈ nr, p.1 ≠ x4.1) (h5 : ∀ p ∈ nr, p.1 ≠ x5.1) (hA : ActsAre nr ys (row.take i))
    (off : LCg.Off3 I C D (x1 :: x2 :: x3 :: x4 :: x5 :: nr)) (F : Fr h₀ L h' m) (N : News h₀ L h' ((T, tupO [.int 0 t0, .int g tg] n) :: (I, oI) :: (C, oC) :: (D, oD) :: x1 :: x2 :: x3 :: x4 :: x5 :: nr))
    (u : ∀ p ∈ (I, oI) :: (C, oC) :: (D, oD) :: x1 :: x2 :: x3 :: x4 :: x5 :: nr, p.1 ≠ T) :
    LCg.CompEnd h₀ L m s₁ I oI C oC D oD (LCg.SrcAt h₀ ax its) (fun y nx' => CA x1 x2 x3 x4 x5 row rest (i + 1) (ys ++ [y]) nx') (.ref T) { s₁ with heap := h', toks := tk } := by
  have q : ∀ {p : Addr × Obj}, p ∈ (I, oI) :: (C, oC) :: (D, oD) :: x1 :: x2 :: x3 :: x4 :: x5 :: nr → T ≠ p.1 := fun hp => (u _ hp).symm
  refine comp_endS F N ?_ (off3_ins off (q (.head _)) (q (.tail _ (.head _))) (q (.tail _ (.tail _ (.head _))))) (.inr ⟨{ cls := .type "list", data := .seq its ka }, ?_, rfl, ka, rfl⟩)
    (CA.next (t0 := t0) (tg := tg) (n := n) hg hs h1 h2 h3 h4 h5 hA (q (.tail _ (.tail _ (.tail _ (.head _))))) (q (.tail _ (.tail _ (.tail _ (.tail _ (.head _)))))) (q (.tail _ (.tail _ (.tail _ (.tail _ (.tail _ (.head _))))))) (q (.tail _ (.tail _ (.tail _ (.tail _ (.tail _ (.tail _ (.head _)))))))) (q (.tail _ (.tail _ (.tail _ (.tail _ (.tail _ (.tail _ (.tail _ (.head _))))))))))
  · intro p hp
    revert p hp
    repeat (refine List.forall_mem_cons.mpr ⟨by repeat (first | exact List.Mem.head _ | refine List.mem_cons_of_mem _ ?_), ?_⟩)
    intro p hp
    repeat (refine List.mem_cons_of_mem _ ?_)
    exact hp
  · repeat (refine List.mem_cons_of_mem _ ?_)
    exact hs _ hax
theorem turn_endLL {w : World} {L K I l : Addr} {oK oI ol : Obj} {m₀ m' : Str → Option Value} {base all nx : Led} {rows : List (List Int)} {i : Nat} {s₁ : Shared} {h₀ h' : Heap} {tk : Nat} (F : Fr h₀ L h' m') (hIK : I ≠ K)
    (Nf : ∀ nx, (∀ p ∈ nx, p ∈ all) → (∀ p ∈ nx, p.1 ≠ K) → News h₀ L h' ((K, oK) :: nx)) (hs : ∀ p ∈ (I, oI) :: nx, p ∈ all) (off : ∀ p ∈ nx, p.1 ≠ I) (hl : (l, ol) ∈ nx) (hJ : LL w m₀ K base rows i m' ((K, oK) :: nx)) :
    TurnEnd h₀ L (fun m' nx => (l, ol) ∈ nx ∧ LL w m₀ K base rows i m' nx) I oI s₁ { s₁ with heap := h', toks := tk } := by
  have hK : ∀ p ∈ nx, p.1 ≠ K := by
    obtain ⟨-, rest, ks, c, e, -, h, -⟩ := hJ
    injection e with e1 e2
    rw [e2]; exact h
  refine ⟨h', tk, m', (K, oK) :: nx, rfl, F, fun p hp => ?_, all_cons hIK.symm off, .tail _ hl, hJ⟩
  refine Nf ((I, oI) :: nx) hs (all_cons hIK hK) p ?_
  revert p hp
  repeat (refine List.forall_mem_cons.mpr ⟨by repeat (first | exact List.Mem.head _ | refine List.mem_cons_of_mem _ ?_), ?_⟩)
  intro p hp
  repeat (refine List.mem_cons_of_mem _ ?_)
  exact hp
theorem ne_in {x D : Addr} {o : Obj} {l : Led} (h : ∀ p ∈ l, p.1 ≠ D) (hm : (x, o) ∈ l) : D ≠ x := (h _ hm).symm
/-- the end of a turn of the loop that builds the lookups -/
theorem LL.turn {w : World} {L I K l : Addr} {oI ol olc o0 : Obj} {m₀ m' : Str → Option Value} {base rest nr : Led} {rows : List (List Int)} {i c' : Nat} {ks : List Value} {k ld tl tb td cl rl st ru rd act lc e1 i1 e2 cov no : Addr} {o : Obj} {ys : List Value} {row : List Int} {n1 n2 n3 n4 n5 n6 n7 : Nat}
    {tz : Tok} {TL TT TR : Nat → Tok} {v3 : Value} {s₁ : Shared} {h₀ h' : Heap} {tk' : Nat} (F : Fr h₀ L h' m')
    (Nf : ∀ nx, (∀ p ∈ nx, p ∈ (k, instObj 43 ld) :: (ld, lkO w "chain" tl TL v3) :: (tl, listOf #[.ref tb] n1) ::
      (tb, instObj 479 td) :: (td, tabO w st cov cl TT) :: (cl, tupO [.ref no, .ref no, .ref no] n3) :: (rl, listOf #[.ref ru] n2) :: (st, o) ::
      (ru, instObj 438 rd) :: (rd, ruleO w e1 i1 e2 act TR) :: (act, tupO ys n7) :: (lc, olc) :: (e2, tupO [] n6) :: (i1, tupO [.int 0 tz] n5) :: (e1, tupO [] n4) :: (I, oI) :: (K, listOf ks.toArray c') :: nr) →
      (∀ p ∈ nx, p.1 ≠ K) → News h₀ L h' ((K, listOf (ks.toArray.push (.ref k)) (c' + 1)) :: nx))
    (hm : LM m₀ m') (hb : ∀ p ∈ base, p ∈ rest) (hrn : ∀ p ∈ rest, p ∈ nr) (hIK : K ≠ I) (hl : (l, ol) ∈ base) (hK : ∀ p ∈ nr, p.1 ≠ K) (hI : ∀ p ∈ nr, p.1 ≠ I) (hk : LksAre w rest ks (rows.take i)) (hr : rows[i]? = some row) (hcov : CovIn w rest cov) (hno : NoneIn w rest no) (hact : ActsAre nr ys row) (hst : (st == sysModules) = false) (hD : o.IsDictOf (PySem.intKind PR w) [(0, .ref rl)])
    (uk : ∀ p ∈ (tl, listOf #[.ref tb] n1) ::
      (tb, instObj 479 td) :: (td, tabO w st cov cl TT) :: (cl, tupO [.ref no, .ref no, .ref no] n3) :: (rl, listOf #[.ref ru] n2) :: (st, o) ::
      (ru, instObj 438 rd) :: (rd, ruleO w e1 i1 e2 act TR) :: (act, tupO ys n7) :: (lc, olc) :: (e2, tupO [] n6) :: (i1, tupO [.int 0 tz] n5) :: (e1, tupO [] n4) :: (I, oI) :: (K, listOf ks.toArray c') :: nr, p.1 ≠ k)
    (uld : ∀ p ∈ (tl, listOf #[.ref tb] n1) ::
      (tb, instObj 479 td) :: (td, tabO w st cov cl TT) :: (cl, tupO [.ref no, .ref no, .ref no] n3) :: (rl, listOf #[.ref ru] n2) :: (st, o) ::
      (ru, instObj 438 rd) :: (rd, ruleO w e1 i1 e2 act TR) :: (act, tupO ys n7) :: (lc, olc) :: (e2, tupO [] n6) :: (i1, tupO [.int 0 tz] n5) :: (e1, tupO [] n4) :: (I, oI) :: (K, listOf ks.toArray c') :: nr, p.1 ≠ ld)
    (utl : ∀ p ∈ (tb, instObj 479 td) :: (td, tabO w st cov cl TT) :: (cl, tupO [.ref no, .ref no, .ref no] n3) :: (rl, listOf #[.ref ru] n2) :: (st, o) ::
      (ru, instObj 438 rd) :: (rd, ruleO w e1 i1 e2 act TR) :: (act, tupO ys n7) :: (lc, olc) :: (e2, tupO [] n6) :: (i1, tupO [.int 0 tz] n5) :: (e1, tupO [] n4) :: (I, oI) :: (K, listOf ks.toArray c') :: nr, p.1 ≠ tl)
    (utb : ∀ p ∈ (cl, tupO [.ref no, .ref no, .ref no] n3) :: (rl, listOf #[.ref ru] n2) :: (st, o) ::
      (ru, instObj 438 rd) :: (rd, ruleO w e1 i1 e2 act TR) :: (act, tupO ys n7) :: (lc, olc) :: (e2, tupO [] n6) :: (i1, tupO [.int 0 tz] n5) :: (e1, tupO [] n4) :: (I, oI) :: (K, listOf ks.toArray c') :: nr, p.1 ≠ tb)
    (utd : ∀ p ∈ (cl, tupO [.ref no, .ref no, .ref no] n3) :: (rl, listOf #[.ref ru] n2) :: (st, o) ::
      (ru, instObj 438 rd) :: (rd, ruleO w e1 i1 e2 act TR) :: (act, tupO ys n7) :: (lc, olc) :: (e2, tupO [] n6) :: (i1, tupO [.int 0 tz] n5) :: (e1, tupO [] n4) :: (I, oI) :: (K, listOf ks.toArray c') :: nr, p.1 ≠ td)
    (ucl : ∀ p ∈ (rl, listOf #[.ref ru] n2) :: (st, o) ::
      (ru, instObj 438 rd) :: (rd, ruleO w e1 i1 e2 act TR) :: (act, tupO ys n7) :: (lc, olc) :: (e2, tupO [] n6) :: (i1, tupO [.int 0 tz] n5) :: (e1, tupO [] n4) :: (I, oI) :: (K, listOf ks.toArray c') :: nr, p.1 ≠ cl)
    (url : ∀ p ∈ (st, o0) ::
      (ru, instObj 438 rd) :: (rd, ruleO w e1 i1 e2 act TR) :: (act, tupO ys n7) :: (lc, olc) :: (e2, tupO [] n6) :: (i1, tupO [.int 0 tz] n5) :: (e1, tupO [] n4) :: (I, oI) :: (K, listOf ks.toArray c') :: nr, p.1 ≠ rl)
    (ust : ∀ p ∈ (ru, instObj 438 rd) :: (rd, ruleO w e1 i1 e2 act TR) :: (act, tupO ys n7) :: (lc, olc) :: (e2, tupO [] n6) :: (i1, tupO [.int 0 tz] n5) :: (e1, tupO [] n4) :: (I, oI) :: (K, listOf ks.toArray c') :: nr, p.1 ≠ st)
    (uru : ∀ p ∈ (act, tupO ys n7) :: (lc, olc) :: (e2, tupO [] n6) :: (i1, tupO [.int 0 tz] n5) :: (e1, tupO [] n4) :: (I, oI) :: (K, listOf ks.toArray c') :: nr, p.1 ≠ ru)
    (urd : ∀ p ∈ (act, tupO ys n7) :: (lc, olc) :: (e2, tupO [] n6) :: (i1, tupO [.int 0 tz] n5) :: (e1, tupO [] n4) :: (I, oI) :: (K, listOf ks.toArray c') :: nr, p.1 ≠ rd)
    (uact : ∀ p ∈ (lc, olc) :: (e2, tupO [] n6) :: (i1, tupO [.int 0 tz] n5) :: (e1, tupO [] n4) :: (I, oI) :: (K, listOf ks.toArray c') :: nr, p.1 ≠ act)
    (ue2 : ∀ p ∈ (i1, tupO [.int 0 tz] n5) :: (e1, tupO [] n4) :: (I, oI) :: (K, listOf ks.toArray c') :: rest, p.1 ≠ e2)
    (ui1 : ∀ p ∈ (e1, tupO [] n4) :: (I, oI) :: (K, listOf ks.toArray c') :: rest, p.1 ≠ i1)
    (ue1 : ∀ p ∈ (I, oI) :: (K, listOf ks.toArray c') :: rest, p.1 ≠ e1) :
    TurnEnd h₀ L (fun m' nx => (l, ol) ∈ nx ∧ LL w m₀ K base rows (i + 1) m' nx) I oI s₁ { s₁ with heap := h', toks := tk' } := by
  have hKn : ∀ {D : Addr} {l : Led}, (∀ p ∈ l, p.1 ≠ D) → (K, listOf ks.toArray c') ∈ l → D ≠ K := fun h hm => ne_in h hm
  refine turn_endLL F hIK.symm Nf ?_ ?_ ?_ (LL.next (n4 := n4) (n5 := n5) (n6 := n6) (n1 := n1) (n2 := n2) (n3 := n3) (n7 := n7) (TL := TL) (TT := TT) (TR := TR) (tz := tz) (v3 := v3) (ld := ld) (tl := tl) (tb := tb) (td := td) (cl := cl) (rl := rl) (st := st) (ru := ru) (rd := rd) (act := act) (e1 := e1) (i1 := i1) (e2 := e2) (cov := cov) (no := no) (o := o) (ys := ys) (row := row) (nr := nr)
    hm (fun p hp => hrn p (hb p hp)) hK (hk.mono hrn) hr (hcov.mono hrn) (hno.mono hrn) hact hst hD ?p1 ?p2 ?p3 ?p4 ?p5 ?p6 ?p7 ?p8 ?p9 ?p10 ?p11 ?p12 ?p13 ?p14)
  case p1 => exact hKn uk (by simp)
  case p2 => exact hKn uld (by simp)
  case p3 => exact hKn utl (by simp)
  case p4 => exact hKn utb (by simp)
  case p5 => exact hKn utd (by simp)
  case p6 => exact hKn ucl (by simp)
  case p7 => exact hKn url (by simp)
  case p8 => exact hKn ust (by simp)
  case p9 => exact hKn uru (by simp)
  case p10 => exact hKn urd (by simp)
  case p11 => exact hKn uact (by simp)
  case p12 => exact hKn ue1 (by simp)
  case p13 => exact hKn ui1 (by simp)
  case p14 => exact hKn ue2 (by simp)
  · repeat (refine List.forall_mem_cons.mpr ⟨by repeat (first | exact List.Mem.head _ | refine List.mem_cons_of_mem _ ?_), ?_⟩)
    intro p hp
    repeat (refine List.mem_cons_of_mem _ ?_)
    exact hp
  · have q : ∀ {D : Addr} {l : Led}, (∀ p ∈ l, p.1 ≠ D) → (I, oI) ∈ l → D ≠ I := fun h hm => ne_in h hm
    exact all_cons (q uk (by simp)) (all_cons (q uld (by simp)) (all_cons (q utl (by simp)) (all_cons (q utb (by simp)) (all_cons (q utd (by simp)) (all_cons (q ust (by simp)) (all_cons (q url (by simp)) (all_cons (q ucl (by simp)) (all_cons (q uru (by simp)) (all_cons (q urd (by simp)) (all_cons (q ue1 (by simp)) (all_cons (q ui1 (by simp)) (all_cons (q ue2 (by simp)) (all_cons (q uact (by simp)) hI)))))))))))))
  · have := hrn _ (hb _ hl)
    repeat (refine List.mem_cons_of_mem _ ?_)
    exact this
open PyProof.V
def rngO (a b : Int) (t u v : Tok) : Obj := { cls := .type "range", data := .fields #[.int a t, .int b u, .int 1 v] }
def upKv (a : Int) (n : Nat) : List (Int × Value) := (rangeKs a n).map fun k => (k, .bool true)
theorem rangeKs_succ (a : Int) (n : Nat) : rangeKs a (n + 1) = rangeKs a n ++ [a + (n : Int)] := by
  simp [rangeKs, List.range_succ]
theorem upKv_keys (a : Int) (n : Nat) : (upKv a n).map (·.1) = rangeKs a n := by
  simp [upKv, List.map_map, Function.comp_def]
theorem upKv_succ (a : Int) (n : Nat) : PySem.stored (upKv a n) (a + (n : Int)) (.bool true) = upKv a (n + 1) := by
  unfold PySem.stored
  rw [if_neg ?_]
  · rw [upKv, upKv, rangeKs_succ, List.map_append]; rfl
  · intro h
    obtain ⟨p, hp, e⟩ := List.any_eq_true.mp h
    obtain ⟨k, hk, rfl⟩ := List.mem_map.mp hp
    have := mem_rangeKs hk
    have e := of_decide_eq_true e
    dsimp only at e
    omega
/-- the ledger of coverage_of's loop -/
def CJ (w : World) (d : Addr) (rest : Led) (i : Nat) (nx : Led) : Prop := ∃ o, nx = (d, o) :: rest ∧ o.IsDictOf (PySem.intKind PR w) (upKv 10 i)
theorem CJ.start {w : World} {d : Addr} {o : Obj} {rest : Led} (h : o.IsDictOf (PySem.intKind PR w) []) (_h2 : ∀ p ∈ rest, p.1 < d) : CJ w d rest 0 ((d, o) :: rest) := ⟨o, rfl, h⟩
theorem CJ.next {w : World} {d : Addr} {o : Obj} {rest : Led} {i : Nat} (h : o.IsDictOf (PySem.intKind PR w) (PySem.stored (upKv 10 i) (10 + (i : Int)) (.bool true))) : CJ w d rest (i + 1) ((d, o) :: rest) := ⟨o, rfl, by rw [← upKv_succ]; exact h⟩
section
local macro_rules | `(tactic| walk_at "setItem ref int") => `(tactic| walk_at "HOLD")
local macro_rules | `(tactic| walk_at "call builtin:sorted") => `(tactic| walk_at "HOLD")
local macro_rules | `(tactic| walk_at "call type:tuple") => `(tactic| walk_at "HOLD")
local macro_rules | `(tactic| walk_at "pyIter ref") => `(tactic| walk_at "ITB")
set_option maxHeartbeats 2000000 in
theorem c_cov (w : World) (mean mg mb) (rest : Led) (r : Addr) (t u v : Tok) (hr : (r, rngO 10 280 t u v) ∈ rest) :
    Con w mean mg mb 407 12 400 [.ref r] rest (fun kq => ∀ cov cd gt gvs t0, IntsAre gvs (rangeKs 10 270) → (∀ p ∈ rest, p.1 ≠ cov) → (∀ p ∈ rest, p.1 ≠ cd) → (∀ p ∈ rest, p.1 ≠ gt) → kq (.ref cov) ((cov, instObj 396 cd) :: (cd, dictOf [⟨PyData.keyHash w.params (PySem.Str.ofString "glyphs"), .str (PySem.Str.ofString "glyphs") t0, .ref gt⟩] 1) :: (gt, tupO gvs 0) :: rest)) := by
  unfold Con
  have hfill : (PySem.Challenge.rw_pf0148_01, hd.heap_39) = (PySem.Challenge.rw_pf0148_01, hd.heap_39) := rfl
  intro dp un gd nm cs a ccd cl outer A₀ base h₀ L m s Q E B F X N T hk hdp hun hret
  revert hfill
  k_fill
  intro hfill; clear hfill
  have hMk := kstMark
  k_with_none
  refine wpAny_call ?_
  k_dflt ktr_enter
  (k_steps; (all_goals (try ((with_reducible refine unheld ?_); (first | (k_here; (with_reducible show wpAny _ _ (call (Value.type _) [Value.ref _]) _ _ _); k_dflt (refine' kde_tupleOf ?k1_330 ?k2_330 ?k3_330 ?k4_330 ?k5_330 ?_; (case k1_330 => k_asm); (case k2_330 => k_asm); (case k3_330 => exact isl (by k_asm) (by k_mem)); (case k4_330 => (rw [List.size_toArray, IntsAre.length (by assumption), rangeKs_length]; decide)); (case k5_330 => rfl)); intro D9z h9z F9z N9z l8z) | (k_here; (with_reducible show wpAny _ _ (call (Value.builtin _) [Value.ref _]) _ _ _); k_dflt (refine' sorted_dictR (mr := 34) ?k1_331 ?k2_331 ?k3_331 ?k4_331 ?k5_331 ?k6_331 (upKv_keys _ _) (range_up _ _) ?k7_331 ?k8_331 ?k9_331 ?k0_331 ?_; (case k1_331 => rfl); (case k2_331 => k_asm); (case k3_331 => k_asm); (case k4_331 => k_mem); (case k5_331 => assumption); (case k6_331 => assumption); (case k7_331 => (rw [rangeKs_length]; decide)); (case k8_331 => (rw [rangeKs_length]; exact minRun_270)); (case k9_331 => (rw [rangeKs_length]; decide)); (case k0_331 => (rw [rangeKs_length]; decide))); intro B9z h9z tk9z vs9z F9z N9z l9z i9z) | (k_here; k_dflt (refine' kda_set (knd := PySem.intKind _ _) ?F_332 ?N_332 ?U_332 ?d_332 (intKind_is _ _ _ _) ?z_332 ?_; (case F_332 => k_asm); (case N_332 => k_asm); (case U_332 => k_updF); (case d_332 => assumption); (case z_332 => (simp only [upKv, List.length_map, rangeKs_length, sizeLine_eq]; omega))); intro h'z o'z F'z N'z hd'z; (try dsimp only at N'z)) | fin_once hold walk1 | fail); (try k_steps)))); (all_goals (try ((with_reducible refine unheld ?_); (first | (k_here; (with_reducible show wpAny _ _ (call (Value.type _) [Value.ref _]) _ _ _); k_dflt (refine' kde_tupleOf ?k1_333 ?k2_333 ?k3_333 ?k4_333 ?k5_333 ?_; (case k1_333 => k_asm); (case k2_333 => k_asm); (case k3_333 => exact isl (by k_asm) (by k_mem)); (case k4_333 => (rw [List.size_toArray, IntsAre.length (by assumption), rangeKs_length]; decide)); (case k5_333 => rfl)); intro D9z h9z F9z N9z l8z) | (k_here; (with_reducible show wpAny _ _ (call (Value.builtin _) [Value.ref _]) _ _ _); k_dflt (refine' sorted_dictR (mr := 34) ?k1_334 ?k2_334 ?k3_334 ?k4_334 ?k5_334 ?k6_334 (upKv_keys _ _) (range_up _ _) ?k7_334 ?k8_334 ?k9_334 ?k0_334 ?_; (case k1_334 => rfl); (case k2_334 => k_asm); (case k3_334 => k_asm); (case k4_334 => k_mem); (case k5_334 => assumption); (case k6_334 => assumption); (case k7_334 => (rw [rangeKs_length]; decide)); (case k8_334 => (rw [rangeKs_length]; exact minRun_270)); (case k9_334 => (rw [rangeKs_length]; decide)); (case k0_334 => (rw [rangeKs_length]; decide))); intro B9z h9z tk9z vs9z F9z N9z l9z i9z) | (k_here; k_dflt (refine' kda_set (knd := PySem.intKind _ _) ?F_335 ?N_335 ?U_335 ?d_335 (intKind_is _ _ _ _) ?z_335 ?_; (case F_335 => k_asm); (case N_335 => k_asm); (case U_335 => k_updF); (case d_335 => assumption); (case z_335 => (simp only [upKv, List.length_map, rangeKs_length, sizeLine_eq]; omega))); intro h'z o'z F'z N'z hd'z; (try dsimp only at N'z)) | fin_once hold walk1 | fail); (try k_steps)))); (all_goals (try ((with_reducible refine unheld ?_); (first | (k_here; (with_reducible show wpAny _ _ (call (Value.type _) [Value.ref _]) _ _ _); k_dflt (refine' kde_tupleOf ?k1_336 ?k2_336 ?k3_336 ?k4_336 ?k5_336 ?_; (case k1_336 => k_asm); (case k2_336 => k_asm); (case k3_336 => exact isl (by k_asm) (by k_mem)); (case k4_336 => (rw [List.size_toArray, IntsAre.length (by assumption), rangeKs_length]; decide)); (case k5_336 => rfl)); intro D9z h9z F9z N9z l8z) | (k_here; (with_reducible show wpAny _ _ (call (Value.builtin _) [Value.ref _]) _ _ _); k_dflt (refine' sorted_dictR (mr := 34) ?k1_337 ?k2_337 ?k3_337 ?k4_337 ?k5_337 ?k6_337 (upKv_keys _ _) (range_up _ _) ?k7_337 ?k8_337 ?k9_337 ?k0_337 ?_; (case k1_337 => rfl); (case k2_337 => k_asm); (case k3_337 => k_asm); (case k4_337 => k_mem); (case k5_337 => assumption); (case k6_337 => assumption); (case k7_337 => (rw [rangeKs_length]; decide)); (case k8_337 => (rw [rangeKs_length]; exact minRun_270)); (case k9_337 => (rw [rangeKs_length]; decide)); (case k0_337 => (rw [rangeKs_length]; decide))); intro B9z h9z tk9z vs9z F9z N9z l9z i9z) | (k_here; k_dflt (refine' kda_set (knd := PySem.intKind _ _) ?F_338 ?N_338 ?U_338 ?d_338 (intKind_is _ _ _ _) ?z_338 ?_; (case F_338 => k_asm); (case N_338 => k_asm); (case U_338 => k_updF); (case d_338 => assumption); (case z_338 => (simp only [upKv, List.length_map, rangeKs_length, sizeLine_eq]; omega))); intro h'z o'z F'z N'z hd'z; (try dsimp only at N'z)) | fin_once hold walk1 | fail); (try k_steps)))))
  unfold Blocked
  refine' iter_rngL 270 (CJ w _ _) ?zh ?zr ?zs ?zz ?zF ?zN ?zj ?zt ?zd
  case zF => k_asm
  case zN => k_asm
  case zh => rfl
  case zr => exact (by k_asm : News _ _ _ _) (r, rngO 10 280 t u v) (by k_mem) |>.1
  case zs => decide
  case zz => decide
  case zj =>
    refine CJ.start ?za ?zb
    case za => assumption
    case zb => assumption
  case zt =>
    intro i k t news₁ h tk I oI hi hk ho hJ F₁ N₁
    obtain ⟨o, rfl, hD⟩ := hJ
    subst hk
    (k_steps; (all_goals (try ((with_reducible refine unheld ?_); (first | (k_here; (with_reducible show wpAny _ _ (call (Value.type _) [Value.ref _]) _ _ _); k_dflt (refine' kde_tupleOf ?k1_339 ?k2_339 ?k3_339 ?k4_339 ?k5_339 ?_; (case k1_339 => k_asm); (case k2_339 => k_asm); (case k3_339 => exact isl (by k_asm) (by k_mem)); (case k4_339 => (rw [List.size_toArray, IntsAre.length (by assumption), rangeKs_length]; decide)); (case k5_339 => rfl)); intro D9z h9z F9z N9z l8z) | (k_here; (with_reducible show wpAny _ _ (call (Value.builtin _) [Value.ref _]) _ _ _); k_dflt (refine' sorted_dictR (mr := 34) ?k1_340 ?k2_340 ?k3_340 ?k4_340 ?k5_340 ?k6_340 (upKv_keys _ _) (range_up _ _) ?k7_340 ?k8_340 ?k9_340 ?k0_340 ?_; (case k1_340 => rfl); (case k2_340 => k_asm); (case k3_340 => k_asm); (case k4_340 => k_mem); (case k5_340 => assumption); (case k6_340 => assumption); (case k7_340 => (rw [rangeKs_length]; decide)); (case k8_340 => (rw [rangeKs_length]; exact minRun_270)); (case k9_340 => (rw [rangeKs_length]; decide)); (case k0_340 => (rw [rangeKs_length]; decide))); intro B9z h9z tk9z vs9z F9z N9z l9z i9z) | (k_here; k_dflt (refine' kda_set (knd := PySem.intKind _ _) ?F_341 ?N_341 ?U_341 ?d_341 (intKind_is _ _ _ _) ?z_341 ?_; (case F_341 => k_asm); (case N_341 => k_asm); (case U_341 => k_updF); (case d_341 => assumption); (case z_341 => (simp only [upKv, List.length_map, rangeKs_length, sizeLine_eq]; omega))); intro h'z o'z F'z N'z hd'z; (try dsimp only at N'z)) | fin_once hold walk1 | fail); (try k_steps)))); (all_goals (try ((with_reducible refine unheld ?_); (first | (k_here; (with_reducible show wpAny _ _ (call (Value.type _) [Value.ref _]) _ _ _); k_dflt (refine' kde_tupleOf ?k1_342 ?k2_342 ?k3_342 ?k4_342 ?k5_342 ?_; (case k1_342 => k_asm); (case k2_342 => k_asm); (case k3_342 => exact isl (by k_asm) (by k_mem)); (case k4_342 => (rw [List.size_toArray, IntsAre.length (by assumption), rangeKs_length]; decide)); (case k5_342 => rfl)); intro D9z h9z F9z N9z l8z) | (k_here; (with_reducible show wpAny _ _ (call (Value.builtin _) [Value.ref _]) _ _ _); k_dflt (refine' sorted_dictR (mr := 34) ?k1_343 ?k2_343 ?k3_343 ?k4_343 ?k5_343 ?k6_343 (upKv_keys _ _) (range_up _ _) ?k7_343 ?k8_343 ?k9_343 ?k0_343 ?_; (case k1_343 => rfl); (case k2_343 => k_asm); (case k3_343 => k_asm); (case k4_343 => k_mem); (case k5_343 => assumption); (case k6_343 => assumption); (case k7_343 => (rw [rangeKs_length]; decide)); (case k8_343 => (rw [rangeKs_length]; exact minRun_270)); (case k9_343 => (rw [rangeKs_length]; decide)); (case k0_343 => (rw [rangeKs_length]; decide))); intro B9z h9z tk9z vs9z F9z N9z l9z i9z) | (k_here; k_dflt (refine' kda_set (knd := PySem.intKind _ _) ?F_344 ?N_344 ?U_344 ?d_344 (intKind_is _ _ _ _) ?z_344 ?_; (case F_344 => k_asm); (case N_344 => k_asm); (case U_344 => k_updF); (case d_344 => assumption); (case z_344 => (simp only [upKv, List.length_map, rangeKs_length, sizeLine_eq]; omega))); intro h'z o'z F'z N'z hd'z; (try dsimp only at N'z)) | fin_once hold walk1 | fail); (try k_steps)))); (all_goals (try ((with_reducible refine unheld ?_); (first | (k_here; (with_reducible show wpAny _ _ (call (Value.type _) [Value.ref _]) _ _ _); k_dflt (refine' kde_tupleOf ?k1_345 ?k2_345 ?k3_345 ?k4_345 ?k5_345 ?_; (case k1_345 => k_asm); (case k2_345 => k_asm); (case k3_345 => exact isl (by k_asm) (by k_mem)); (case k4_345 => (rw [List.size_toArray, IntsAre.length (by assumption), rangeKs_length]; decide)); (case k5_345 => rfl)); intro D9z h9z F9z N9z l8z) | (k_here; (with_reducible show wpAny _ _ (call (Value.builtin _) [Value.ref _]) _ _ _); k_dflt (refine' sorted_dictR (mr := 34) ?k1_346 ?k2_346 ?k3_346 ?k4_346 ?k5_346 ?k6_346 (upKv_keys _ _) (range_up _ _) ?k7_346 ?k8_346 ?k9_346 ?k0_346 ?_; (case k1_346 => rfl); (case k2_346 => k_asm); (case k3_346 => k_asm); (case k4_346 => k_mem); (case k5_346 => assumption); (case k6_346 => assumption); (case k7_346 => (rw [rangeKs_length]; decide)); (case k8_346 => (rw [rangeKs_length]; exact minRun_270)); (case k9_346 => (rw [rangeKs_length]; decide)); (case k0_346 => (rw [rangeKs_length]; decide))); intro B9z h9z tk9z vs9z F9z N9z l9z i9z) | (k_here; k_dflt (refine' kda_set (knd := PySem.intKind _ _) ?F_347 ?N_347 ?U_347 ?d_347 (intKind_is _ _ _ _) ?z_347 ?_; (case F_347 => k_asm); (case N_347 => k_asm); (case U_347 => k_updF); (case d_347 => assumption); (case z_347 => (simp only [upKv, List.length_map, rangeKs_length, sizeLine_eq]; omega))); intro h'z o'z F'z N'z hd'z; (try dsimp only at N'z)) | fin_once hold walk1 | fail); (try k_steps)))))
    unfold Blocked
    refine' turn_end ?ua ?ub ?uc ?ud ⟨CJ.next ?v1, ?um⟩
    case ua => k_asm
    case ub => k_asm
    case v1 => assumption
    case uc => walk_at "SUB"
    case ud => k_all
    case um => exact fun z h1 => if_neg h1
  case zd =>
    intro u₁ news₁ h tk hJ F₁ N₁
    obtain ⟨o, rfl, hD⟩ := hJ
    dsimp only
    (k_steps; (all_goals (try ((with_reducible refine unheld ?_); (first | (k_here; (with_reducible show wpAny _ _ (call (Value.type _) [Value.ref _]) _ _ _); k_dflt (refine' kde_tupleOf ?k1_348 ?k2_348 ?k3_348 ?k4_348 ?k5_348 ?_; (case k1_348 => k_asm); (case k2_348 => k_asm); (case k3_348 => exact isl (by k_asm) (by k_mem)); (case k4_348 => (rw [List.size_toArray, IntsAre.length (by assumption), rangeKs_length]; decide)); (case k5_348 => rfl)); intro D9z h9z F9z N9z l8z) | (k_here; (with_reducible show wpAny _ _ (call (Value.builtin _) [Value.ref _]) _ _ _); k_dflt (refine' sorted_dictR (mr := 34) ?k1_349 ?k2_349 ?k3_349 ?k4_349 ?k5_349 ?k6_349 (upKv_keys _ _) (range_up _ _) ?k7_349 ?k8_349 ?k9_349 ?k0_349 ?_; (case k1_349 => rfl); (case k2_349 => k_asm); (case k3_349 => k_asm); (case k4_349 => k_mem); (case k5_349 => assumption); (case k6_349 => assumption); (case k7_349 => (rw [rangeKs_length]; decide)); (case k8_349 => (rw [rangeKs_length]; exact minRun_270)); (case k9_349 => (rw [rangeKs_length]; decide)); (case k0_349 => (rw [rangeKs_length]; decide))); intro B9z h9z tk9z vs9z F9z N9z l9z i9z) | (k_here; k_dflt (refine' kda_set (knd := PySem.intKind _ _) ?F_350 ?N_350 ?U_350 ?d_350 (intKind_is _ _ _ _) ?z_350 ?_; (case F_350 => k_asm); (case N_350 => k_asm); (case U_350 => k_updF); (case d_350 => assumption); (case z_350 => (simp only [upKv, List.length_map, rangeKs_length, sizeLine_eq]; omega))); intro h'z o'z F'z N'z hd'z; (try dsimp only at N'z)) | fin_once hold walk1 | fail); (try k_steps)))); (all_goals (try ((with_reducible refine unheld ?_); (first | (k_here; (with_reducible show wpAny _ _ (call (Value.type _) [Value.ref _]) _ _ _); k_dflt (refine' kde_tupleOf ?k1_351 ?k2_351 ?k3_351 ?k4_351 ?k5_351 ?_; (case k1_351 => k_asm); (case k2_351 => k_asm); (case k3_351 => exact isl (by k_asm) (by k_mem)); (case k4_351 => (rw [List.size_toArray, IntsAre.length (by assumption), rangeKs_length]; decide)); (case k5_351 => rfl)); intro D9z h9z F9z N9z l8z) | (k_here; (with_reducible show wpAny _ _ (call (Value.builtin _) [Value.ref _]) _ _ _); k_dflt (refine' sorted_dictR (mr := 34) ?k1_352 ?k2_352 ?k3_352 ?k4_352 ?k5_352 ?k6_352 (upKv_keys _ _) (range_up _ _) ?k7_352 ?k8_352 ?k9_352 ?k0_352 ?_; (case k1_352 => rfl); (case k2_352 => k_asm); (case k3_352 => k_asm); (case k4_352 => k_mem); (case k5_352 => assumption); (case k6_352 => assumption); (case k7_352 => (rw [rangeKs_length]; decide)); (case k8_352 => (rw [rangeKs_length]; exact minRun_270)); (case k9_352 => (rw [rangeKs_length]; decide)); (case k0_352 => (rw [rangeKs_length]; decide))); intro B9z h9z tk9z vs9z F9z N9z l9z i9z) | (k_here; k_dflt (refine' kda_set (knd := PySem.intKind _ _) ?F_353 ?N_353 ?U_353 ?d_353 (intKind_is _ _ _ _) ?z_353 ?_; (case F_353 => k_asm); (case N_353 => k_asm); (case U_353 => k_updF); (case d_353 => assumption); (case z_353 => (simp only [upKv, List.length_map, rangeKs_length, sizeLine_eq]; omega))); intro h'z o'z F'z N'z hd'z; (try dsimp only at N'z)) | fin_once hold walk1 | fail); (try k_steps)))); (all_goals (try ((with_reducible refine unheld ?_); (first | (k_here; (with_reducible show wpAny _ _ (call (Value.type _) [Value.ref _]) _ _ _); k_dflt (refine' kde_tupleOf ?k1_354 ?k2_354 ?k3_354 ?k4_354 ?k5_354 ?_; (case k1_354 => k_asm); (case k2_354 => k_asm); (case k3_354 => exact isl (by k_asm) (by k_mem)); (case k4_354 => (rw [List.size_toArray, IntsAre.length (by assumption), rangeKs_length]; decide)); (case k5_354 => rfl)); intro D9z h9z F9z N9z l8z) | (k_here; (with_reducible show wpAny _ _ (call (Value.builtin _) [Value.ref _]) _ _ _); k_dflt (refine' sorted_dictR (mr := 34) ?k1_355 ?k2_355 ?k3_355 ?k4_355 ?k5_355 ?k6_355 (upKv_keys _ _) (range_up _ _) ?k7_355 ?k8_355 ?k9_355 ?k0_355 ?_; (case k1_355 => rfl); (case k2_355 => k_asm); (case k3_355 => k_asm); (case k4_355 => k_mem); (case k5_355 => assumption); (case k6_355 => assumption); (case k7_355 => (rw [rangeKs_length]; decide)); (case k8_355 => (rw [rangeKs_length]; exact minRun_270)); (case k9_355 => (rw [rangeKs_length]; decide)); (case k0_355 => (rw [rangeKs_length]; decide))); intro B9z h9z tk9z vs9z F9z N9z l9z i9z) | (k_here; k_dflt (refine' kda_set (knd := PySem.intKind _ _) ?F_356 ?N_356 ?U_356 ?d_356 (intKind_is _ _ _ _) ?z_356 ?_; (case F_356 => k_asm); (case N_356 => k_asm); (case U_356 => k_updF); (case d_356 => assumption); (case z_356 => (simp only [upKv, List.length_map, rangeKs_length, sizeLine_eq]; omega))); intro h'z o'z F'z N'z hd'z; (try dsimp only at N'z)) | fin_once hold walk1 | fail); (try k_steps)))))
    refine' hret _ _ _ _ _ ?z1 ?z2 ?z3 ?z4 _ _ (by k_asm) (cb_drop (by assumption) ?zd)
    case zd => walk_at "SUB"
    case z1 => assumption
    all_goals first | (walk_at "NE") | exact sub_all (ltA_ne (by with_reducible assumption)) (by walk_at "SUB")
end
section
set_option maxHeartbeats 2000000 in
theorem mk_rule (w : World) (mean mg mb) (news : Led) (e1 i1 e2 act : Addr) :
    Con w mean mg mb 438 12 400 [.ref e1, .ref i1, .ref e2, .ref act] news (fun kq => ∀ x d T, (∀ p ∈ news, p.1 ≠ x) → (∀ p ∈ news, p.1 ≠ d) → kq (.ref x) ((x, instObj 438 d) :: (d, ruleO w e1 i1 e2 act T) :: news)) := by
  unfold Con
  have hfill : (PySem.Challenge.rw_pf0148_01, hd.heap_39) = (PySem.Challenge.rw_pf0148_01, hd.heap_39) := rfl
  intro dp un gd nm cs a ccd cl outer A₀ base h₀ L m s Q E B F X N T hk hdp hun hret
  revert hfill
  k_fill
  intro hfill; clear hfill
  have hMk := kstMark
  k_with_none
  k_dflt (refine' call_cls ?k1 ?k2 ?k3 ?k4 ?k5 ?k6 ?_; (case k1 => k_asm); (case k2 => k_asm); (case k3 => k_asm); (case k4 => k_is); (case k5 => k_is); (case k6 => k_is); k_whole; intro x' d' h' F' N' l1 l2; (try k_lt l1); (try k_lt2 l2); refine' code_def ?k1 ?k2 ?k3 ?k4 ?k5 ?kA ?kF ?kK ?k6 ?k7 ?k8 ?k9 ?kB ?_ ?c2 ?c3 ?c4 ?c5; (case kA => exact rfl); (case kF => exact rfl); (case kK => assumption); (case k1 => k_asm); (case k2 => k_asm); (case k3 => k_asm); (case k4 => k_asm); (case k5 => k_asm); (case k6 => k_is); (case k7 => k_is); (case k8 => ktr_room); (case k9 => first | exact BindsTo.of_eq rfl | exact binds_K (by k_in) rfl (by k_is) rfl rfl rfl); (case c5 => decide); (case kB => exact locs rfl); (case c2 => exact rfl); (case c3 => exact rfl); (case c4 => exact rfl); k_whole; intro g' L' h' FG' F' N' B' X' T'; (try dsimp only); (try k_fold))
  k_steps
  refine' hret _ _ (fun i => [0, _, _, _, _].getD i 0) ?z1 ?z2 _ _ (by k_asm) (cb_drop (by assumption) ?zd)
  case zd => walk_at "SUB"
  all_goals (walk_at "NE")
set_option maxHeartbeats 2000000 in
theorem mk_ctx (w : World) (mean mg mb) (news : Led) (st cov cl : Addr) (tf : Tok) :
    Con w mean mg mb 479 12 400 [.int 2 tf, .bool true, .ref st, .ref cov, .ref cl] news (fun kq => ∀ x d T, (∀ p ∈ news, p.1 ≠ x) → (∀ p ∈ news, p.1 ≠ d) → kq (.ref x) ((x, instObj 479 d) :: (d, tabO w st cov cl T) :: news)) := by
  unfold Con
  have hfill : (PySem.Challenge.rw_pf0148_01, hd.heap_39) = (PySem.Challenge.rw_pf0148_01, hd.heap_39) := rfl
  intro dp un gd nm cs a ccd cl outer A₀ base h₀ L m s Q E B F X N T hk hdp hun hret
  revert hfill
  k_fill
  intro hfill; clear hfill
  have hMk := kstMark
  k_with_none
  k_dflt (refine' call_cls ?k1 ?k2 ?k3 ?k4 ?k5 ?k6 ?_; (case k1 => k_asm); (case k2 => k_asm); (case k3 => k_asm); (case k4 => k_is); (case k5 => k_is); (case k6 => k_is); k_whole; intro x' d' h' F' N' l1 l2; (try k_lt l1); (try k_lt2 l2); refine' code_def ?k1 ?k2 ?k3 ?k4 ?k5 ?kA ?kF ?kK ?k6 ?k7 ?k8 ?k9 ?kB ?_ ?c2 ?c3 ?c4 ?c5; (case kA => exact rfl); (case kF => exact rfl); (case kK => assumption); (case k1 => k_asm); (case k2 => k_asm); (case k3 => k_asm); (case k4 => k_asm); (case k5 => k_asm); (case k6 => k_is); (case k7 => k_is); (case k8 => ktr_room); (case k9 => first | exact BindsTo.of_eq rfl | exact binds_K (by k_in) rfl (by k_is) rfl rfl rfl); (case c5 => decide); (case kB => exact locs rfl); (case c2 => exact rfl); (case c3 => exact rfl); (case c4 => exact rfl); k_whole; intro g' L' h' FG' F' N' B' X' T'; (try dsimp only); (try k_fold))
  k_steps
  refine' hret _ _ (fun i => [0, _, _, _, _, _, _].getD i 0) ?z1 ?z2 _ _ (by k_asm) (cb_drop (by assumption) ?zd)
  case zd => walk_at "SUB"
  all_goals (walk_at "NE")
set_option maxHeartbeats 2000000 in
theorem mk_lk (w : World) (mean mg mb) (news : Led) (kind : String) (tl : Addr) (tk tf tm : Tok) :
    Con w mean mg mb 43 12 400 [.str (PySem.Str.ofString kind) tk, .int 0 tf, .int 0 tm, .ref tl] news (fun kq => ∀ x d T, (∀ p ∈ news, p.1 ≠ x) → (∀ p ∈ news, p.1 ≠ d) → kq (.ref x) ((x, instObj 43 d) :: (d, lkO w kind tl T (.int 0 tm)) :: news)) := by
  unfold Con
  have hfill : (PySem.Challenge.rw_pf0148_01, hd.heap_39) = (PySem.Challenge.rw_pf0148_01, hd.heap_39) := rfl
  intro dp un gd nm cs a ccd cl outer A₀ base h₀ L m s Q E B F X N T hk hdp hun hret
  revert hfill
  k_fill
  intro hfill; clear hfill
  have hMk := kstMark
  k_with_none
  k_dflt (refine' call_cls ?k1 ?k2 ?k3 ?k4 ?k5 ?k6 ?_; (case k1 => k_asm); (case k2 => k_asm); (case k3 => k_asm); (case k4 => k_is); (case k5 => k_is); (case k6 => k_is); k_whole; intro x' d' h' F' N' l1 l2; (try k_lt l1); (try k_lt2 l2); refine' code_def ?k1 ?k2 ?k3 ?k4 ?k5 ?kA ?kF ?kK ?k6 ?k7 ?k8 ?k9 ?kB ?_ ?c2 ?c3 ?c4 ?c5; (case kA => exact rfl); (case kF => exact rfl); (case kK => assumption); (case k1 => k_asm); (case k2 => k_asm); (case k3 => k_asm); (case k4 => k_asm); (case k5 => k_asm); (case k6 => k_is); (case k7 => k_is); (case k8 => ktr_room); (case k9 => first | exact BindsTo.of_eq rfl | exact binds_K (by k_in) rfl (by k_is) rfl rfl rfl); (case c5 => decide); (case kB => exact locs rfl); (case c2 => exact rfl); (case c3 => exact rfl); (case c4 => exact rfl); k_whole; intro g' L' h' FG' F' N' B' X' T'; (try dsimp only); (try k_fold))
  k_steps
  refine' hret _ _ (fun i => [0, _, _, _, _, _, _].getD i 0) ?z1 ?z2 _ _ (by k_asm) (cb_drop (by assumption) ?zd)
  case zd => walk_at "SUB"
  all_goals (walk_at "NE")
set_option maxHeartbeats 2000000 in
theorem mk_single (w : World) (mean mg mb) (news : Led) (mp : Addr) :
    Con w mean mg mb 607 12 400 [.ref mp] news (fun kq => ∀ x d t1, (∀ p ∈ news, p.1 ≠ x) → (∀ p ∈ news, p.1 ≠ d) → kq (.ref x) ((x, instObj 607 d) :: (d, dictOf [⟨PyData.keyHash w.params (PySem.Str.ofString "mapping"), .str (PySem.Str.ofString "mapping") t1, .ref mp⟩] 1) :: news)) := by
  unfold Con
  have hfill : (PySem.Challenge.rw_pf0148_01, hd.heap_39) = (PySem.Challenge.rw_pf0148_01, hd.heap_39) := rfl
  intro dp un gd nm cs a ccd cl outer A₀ base h₀ L m s Q E B F X N T hk hdp hun hret
  revert hfill
  k_fill
  intro hfill; clear hfill
  have hMk := kstMark
  k_with_none
  k_dflt (refine' call_cls ?k1 ?k2 ?k3 ?k4 ?k5 ?k6 ?_; (case k1 => k_asm); (case k2 => k_asm); (case k3 => k_asm); (case k4 => k_is); (case k5 => k_is); (case k6 => k_is); k_whole; intro x' d' h' F' N' l1 l2; (try k_lt l1); (try k_lt2 l2); refine' code_def ?k1 ?k2 ?k3 ?k4 ?k5 ?kA ?kF ?kK ?k6 ?k7 ?k8 ?k9 ?kB ?_ ?c2 ?c3 ?c4 ?c5; (case kA => exact rfl); (case kF => exact rfl); (case kK => assumption); (case k1 => k_asm); (case k2 => k_asm); (case k3 => k_asm); (case k4 => k_asm); (case k5 => k_asm); (case k6 => k_is); (case k7 => k_is); (case k8 => ktr_room); (case k9 => first | exact BindsTo.of_eq rfl | exact binds_K (by k_in) rfl (by k_is) rfl rfl rfl); (case c5 => decide); (case kB => exact locs rfl); (case c2 => exact rfl); (case c3 => exact rfl); (case c4 => exact rfl); k_whole; intro g' L' h' FG' F' N' B' X' T'; (try dsimp only); (try k_fold))
  k_steps
  refine' hret _ _ _ ?z1 ?z2 _ _ (by k_asm) (cb_drop (by assumption) ?zd)
  case zd => walk_at "SUB"
  all_goals (walk_at "NE")
set_option maxHeartbeats 2000000 in
theorem mk_info (w : World) (mean mg mb) (news : Led) (g k : Int) (tc tg tk : Tok) :
    Con w mean mg mb 142 12 400 [.int 65 tc, .int g tg, .int k tk] news (fun kq => ∀ x d o, InfV w o g → (∀ p ∈ news, p.1 ≠ x) → (∀ p ∈ news, p.1 ≠ d) → kq (.ref x) ((x, instObj 142 d) :: (d, o) :: news)) := by
  unfold Con
  have hfill : (PySem.Challenge.rw_pf0148_01, hd.heap_39) = (PySem.Challenge.rw_pf0148_01, hd.heap_39) := rfl
  intro dp un gd nm cs a ccd cl outer A₀ base h₀ L m s Q E B F X N T hk hdp hun hret
  revert hfill
  k_fill
  intro hfill; clear hfill
  have hMk := kstMark
  k_with_none
  k_dflt (refine' call_cls ?k1 ?k2 ?k3 ?k4 ?k5 ?k6 ?_; (case k1 => k_asm); (case k2 => k_asm); (case k3 => k_asm); (case k4 => k_is); (case k5 => k_is); (case k6 => k_is); k_whole; intro x' d' h' F' N' l1 l2; (try k_lt l1); (try k_lt2 l2); refine' code_def ?k1 ?k2 ?k3 ?k4 ?k5 ?kA ?kF ?kK ?k6 ?k7 ?k8 ?k9 ?kB ?_ ?c2 ?c3 ?c4 ?c5; (case kA => exact rfl); (case kF => exact rfl); (case kK => assumption); (case k1 => k_asm); (case k2 => k_asm); (case k3 => k_asm); (case k4 => k_asm); (case k5 => k_asm); (case k6 => k_is); (case k7 => k_is); (case k8 => ktr_room); (case k9 => first | exact BindsTo.of_eq rfl | exact binds_K (by k_in) rfl (by k_is) rfl rfl rfl); (case c5 => decide); (case kB => exact locs rfl); (case c2 => exact rfl); (case c3 => exact rfl); (case c4 => exact rfl); k_whole; intro g' L' h' FG' F' N' B' X' T'; (try dsimp only); (try k_fold))
  k_steps
  refine' hret _ _ _ InfV.of ?z1 ?z2 _ _ (by k_asm) (cb_drop (by assumption) ?zd)
  case zd => walk_at "SUB"
  all_goals (walk_at "NE")
set_option maxHeartbeats 2000000 in
theorem mk_buffer (w : World) (mean mg mb) (news : Led) (row : Addr) :
    Con w mean mg mb 193 12 400 [.ref row] news (fun kq => ∀ x d T V, (∀ p ∈ news, p.1 ≠ x) → (∀ p ∈ news, p.1 ≠ d) → kq (.ref x) ((x, instObj 193 d) :: (d, bufO w row T V) :: news)) := by
  unfold Con
  have hfill : (PySem.Challenge.rw_pf0148_01, hd.heap_39) = (PySem.Challenge.rw_pf0148_01, hd.heap_39) := rfl
  intro dp un gd nm cs a ccd cl outer A₀ base h₀ L m s Q E B F X N T hk hdp hun hret
  revert hfill
  k_fill
  intro hfill; clear hfill
  have hMk := kstMark
  k_with_none
  k_dflt (refine' call_cls ?k1 ?k2 ?k3 ?k4 ?k5 ?k6 ?_; (case k1 => k_asm); (case k2 => k_asm); (case k3 => k_asm); (case k4 => k_is); (case k5 => k_is); (case k6 => k_is); k_whole; intro x' d' h' F' N' l1 l2; (try k_lt l1); (try k_lt2 l2); refine' code_def ?k1 ?k2 ?k3 ?k4 ?k5 ?kA ?kF ?kK ?k6 ?k7 ?k8 ?k9 ?kB ?_ ?c2 ?c3 ?c4 ?c5; (case kA => exact rfl); (case kF => exact rfl); (case kK => assumption); (case k1 => k_asm); (case k2 => k_asm); (case k3 => k_asm); (case k4 => k_asm); (case k5 => k_asm); (case k6 => k_is); (case k7 => k_is); (case k8 => ktr_room); (case k9 => first | exact BindsTo.of_eq rfl | exact binds_K (by k_in) rfl (by k_is) rfl rfl rfl); (case c5 => decide); (case kB => exact locs rfl); (case c2 => exact rfl); (case c3 => exact rfl); (case c4 => exact rfl); k_whole; intro g' L' h' FG' F' N' B' X' T'; (try dsimp only); (try k_fold))
  k_steps
  refine' hret _ _ (fun i => [0, _, _, _, _].getD i 0) (fun i => [.none, .none, _, _, _].getD i .none) ?z1 ?z2 _ _ (by k_asm) (cb_drop (by assumption) ?zd)
  case zd => walk_at "SUB"
  all_goals (walk_at "NE")
set_option maxHeartbeats 2000000 in
theorem mk_class (w : World) (mean mg mb) (news : Led) (nc : Addr) :
    Con w mean mg mb 717 12 400 [.ref nc] news (fun kq => ∀ x d t1, (∀ p ∈ news, p.1 ≠ x) → (∀ p ∈ news, p.1 ≠ d) → kq (.ref x) ((x, instObj 717 d) :: (d, dictOf [⟨PyData.keyHash w.params (PySem.Str.ofString "classes"), .str (PySem.Str.ofString "classes") t1, .ref nc⟩] 1) :: news)) := by
  unfold Con
  have hfill : (PySem.Challenge.rw_pf0148_01, hd.heap_39) = (PySem.Challenge.rw_pf0148_01, hd.heap_39) := rfl
  intro dp un gd nm cs a ccd cl outer A₀ base h₀ L m s Q E B F X N T hk hdp hun hret
  revert hfill
  k_fill
  intro hfill; clear hfill
  have hMk := kstMark
  k_with_none
  k_dflt (refine' call_cls ?k1 ?k2 ?k3 ?k4 ?k5 ?k6 ?_; (case k1 => k_asm); (case k2 => k_asm); (case k3 => k_asm); (case k4 => k_is); (case k5 => k_is); (case k6 => k_is); k_whole; intro x' d' h' F' N' l1 l2; (try k_lt l1); (try k_lt2 l2); refine' code_def ?k1 ?k2 ?k3 ?k4 ?k5 ?kA ?kF ?kK ?k6 ?k7 ?k8 ?k9 ?kB ?_ ?c2 ?c3 ?c4 ?c5; (case kA => exact rfl); (case kF => exact rfl); (case kK => assumption); (case k1 => k_asm); (case k2 => k_asm); (case k3 => k_asm); (case k4 => k_asm); (case k5 => k_asm); (case k6 => k_is); (case k7 => k_is); (case k8 => ktr_room); (case k9 => first | exact BindsTo.of_eq rfl | exact binds_K (by k_in) rfl (by k_is) rfl rfl rfl); (case c5 => decide); (case kB => exact locs rfl); (case c2 => exact rfl); (case c3 => exact rfl); (case c4 => exact rfl); k_whole; intro g' L' h' FG' F' N' B' X' T'; (try dsimp only); (try k_fold))
  k_steps
  refine' hret _ _ _ ?z1 ?z2 _ _ (by k_asm) (cb_drop (by assumption) ?zd)
  case zd => walk_at "SUB"
  all_goals (walk_at "NE")
local macro_rules | `(tactic| walk_at "call ref") => `(tactic| walk_at "HOLD")
set_option maxHeartbeats 2000000 in
theorem c_nogdef (w : World) (mean mg mb) (news : Led) :
    Con w mean mg mb 776 16 500 [] news (fun kq => ∀ gd dd cl nd nc o t0 T V, (nc == sysModules) = false → o.IsDictOf (PySem.intKind PR w) [] → (∀ p ∈ news, p.1 ≠ gd) → (∀ p ∈ news, p.1 ≠ dd) → (∀ p ∈ news, p.1 ≠ cl) → (∀ p ∈ news, p.1 ≠ nd) → (∀ p ∈ news, p.1 ≠ nc) → kq (.ref gd) ((gd, instObj 765 dd) :: (dd, gdO w cl T V) :: (cl, instObj 717 nd) :: (nd, dictOf [⟨PyData.keyHash w.params (PySem.Str.ofString "classes"), .str (PySem.Str.ofString "classes") t0, .ref nc⟩] 1) :: (nc, o) :: news)) := by
  unfold Con
  have hfill : (PySem.Challenge.rw_pf0148_01, hd.heap_39) = (PySem.Challenge.rw_pf0148_01, hd.heap_39) := rfl
  intro dp un gd nm cs a ccd cl outer A₀ base h₀ L m s Q E B F X N T hk hdp hun hret
  revert hfill
  k_fill
  intro hfill; clear hfill
  have hMk := kstMark
  k_with_none
  refine wpAny_call ?_
  k_dflt ktr_enter
  (k_steps; (all_goals (try ((with_reducible refine unheld ?_); (first | (refine' con_use ?k1_357 ?k2_357 ?k3_357 ?k4_357 ?k5_357 ?kK_357 ?kd_357 ?ku_357 (mk_class _ _ _ _ _ _ ) ?_; (case k1_357 => k_asm); (case k2_357 => k_asm); (case k3_357 => k_asm); (case k4_357 => k_asm); (case k5_357 => k_asm); (case kK_357 => first | exact rfl | assumption); (case kd_357 => ktr_room); (case ku_357 => ktr_units); k_whole;  intro x9z d9z t91z u91z u92z h9z tk9z F9z N9z; (try dsimp only); (try k_fold)) | fin_once hold walk1 | fail); (try k_steps)))); (all_goals (try ((with_reducible refine unheld ?_); (first | (refine' con_use ?k1_358 ?k2_358 ?k3_358 ?k4_358 ?k5_358 ?kK_358 ?kd_358 ?ku_358 (mk_class _ _ _ _ _ _ ) ?_; (case k1_358 => k_asm); (case k2_358 => k_asm); (case k3_358 => k_asm); (case k4_358 => k_asm); (case k5_358 => k_asm); (case kK_358 => first | exact rfl | assumption); (case kd_358 => ktr_room); (case ku_358 => ktr_units); k_whole;  intro x9z d9z t91z u91z u92z h9z tk9z F9z N9z; (try dsimp only); (try k_fold)) | fin_once hold walk1 | fail); (try k_steps)))); (all_goals (try ((with_reducible refine unheld ?_); (first | (refine' con_use ?k1_359 ?k2_359 ?k3_359 ?k4_359 ?k5_359 ?kK_359 ?kd_359 ?ku_359 (mk_class _ _ _ _ _ _ ) ?_; (case k1_359 => k_asm); (case k2_359 => k_asm); (case k3_359 => k_asm); (case k4_359 => k_asm); (case k5_359 => k_asm); (case kK_359 => first | exact rfl | assumption); (case kd_359 => ktr_room); (case ku_359 => ktr_units); k_whole;  intro x9z d9z t91z u91z u92z h9z tk9z F9z N9z; (try dsimp only); (try k_fold)) | fin_once hold walk1 | fail); (try k_steps)))); (all_goals (try ((with_reducible refine unheld ?_); (first | (refine' con_use ?k1_360 ?k2_360 ?k3_360 ?k4_360 ?k5_360 ?kK_360 ?kd_360 ?ku_360 (mk_class _ _ _ _ _ _ ) ?_; (case k1_360 => k_asm); (case k2_360 => k_asm); (case k3_360 => k_asm); (case k4_360 => k_asm); (case k5_360 => k_asm); (case kK_360 => first | exact rfl | assumption); (case kd_360 => ktr_room); (case ku_360 => ktr_units); k_whole;  intro x9z d9z t91z u91z u92z h9z tk9z F9z N9z; (try dsimp only); (try k_fold)) | fin_once hold walk1 | fail); (try k_steps)))))
  refine' hret _ _ _ _ _ _ _ (fun i => [0, _, _, _, _, _].getD i 0) (fun i => [.none, .none, _, _, _, _].getD i .none) ?y1 ?y2 ?z1 ?z2 ?z3 ?z4 ?z5 _ _ (by k_asm) (cb_drop (by assumption) ?zd)
  case zd => walk_at "SUB"
  case y1 => assumption
  case y2 => assumption
  all_goals (walk_at "NE")
end
open PyProof.V
/-- the pairs (glyph, glyph + 1) made so far -/
def PA (nr : Led) (ys : List Value) (kvs : List (Int × Value)) (i : Nat) : Prop := ys.length = i ∧ kvs.length = i ∧
  (∀ (j : Nat) (v : Value), ys[j]? = some v → ∃ (p : Addr) (k : Int) (t : Tok) (x : Value) (c : Nat), v = .ref p ∧ kvs[j]? = some (k, x) ∧ (p, ({ cls := .type "tuple", data := .seq [Value.int k t, x].toArray c } : Obj)) ∈ nr) ∧
  ∀ (j : Nat) (kv : Int × Value), kvs[j]? = some kv → kv.1 = 10 + (j : Int) ∧ ∃ t, kv.2 = .int (10 + (j : Int) + 1) t
theorem PA.nil {nr : Led} : PA nr [] [] 0 := ⟨rfl, rfl, fun j v h => by simp at h, fun j kv h => by simp at h⟩
theorem PA.mono {nr nr' : Led} {ys : List Value} {kvs : List (Int × Value)} {i : Nat} (h : PA nr ys kvs i) (s : ∀ p ∈ nr, p ∈ nr') : PA nr' ys kvs i :=
  ⟨h.1, h.2.1, fun j v hv => let ⟨p, k, t, x, c, e1, e2, e3⟩ := h.2.2.1 j v hv; ⟨p, k, t, x, c, e1, e2, s _ e3⟩, h.2.2.2⟩
theorem getS {α : Type} {xs : List α} {x y : α} {j : Nat} (h : (xs ++ [x])[j]? = some y) : (xs[j]? = some y) ∨ (j = xs.length ∧ y = x) := by
  by_cases hj : j < xs.length
  · rw [List.getElem?_append_left hj] at h
    exact .inl h
  · by_cases e : j = xs.length
    · subst e
      simp at h
      exact .inr ⟨rfl, h.symm⟩
    · rw [List.getElem?_eq_none (by simp; omega)] at h
      cases h
theorem PA.snoc {nr : Led} {ys : List Value} {kvs : List (Int × Value)} {i n : Nat} {p : Addr} {t t' : Tok} (h : PA nr ys kvs i) (hm : (p, tupO [.int (10 + (i : Int)) t, .int (10 + (i : Int) + 1) t'] n) ∈ nr) : PA nr (ys ++ [.ref p]) (kvs ++ [(10 + (i : Int), .int (10 + (i : Int) + 1) t')]) (i + 1) := by
  obtain ⟨h1, h2, h3, h4⟩ := h
  refine ⟨by simp [h1], by simp [h2], fun j v hv => ?_, fun j kv hv => ?_⟩
  · rcases getS hv with hv | ⟨rfl, rfl⟩
    · obtain ⟨p', k, t₁, x, c, e1, e2, e3⟩ := h3 j v hv
      have hlt : j < kvs.length := by
        by_cases hc : j < kvs.length
        · exact hc
        · rw [List.getElem?_eq_none (by omega)] at e2; cases e2
      exact ⟨p', k, t₁, x, c, e1, by rw [List.getElem?_append_left hlt]; exact e2, e3⟩
    · refine ⟨p, _, t, _, n, rfl, ?_, hm⟩
      rw [h1, ← h2]
      simp
  · rcases getS hv with hv | ⟨rfl, rfl⟩
    · exact h4 j kv hv
    · rw [h2]; exact ⟨rfl, t', rfl⟩
theorem PA.get {nr : Led} {ys : List Value} {kvs : List (Int × Value)} {i : Nat} (h : PA nr ys kvs i) {g : Int} (h0 : 10 ≤ g) (h1 : g < 10 + (i : Int)) : ∃ t, valueAt kvs g = some (.int (g + 1) t) := by
  have hj : (g - 10).toNat < kvs.length := by rw [h.2.1]; omega
  have hg := List.getElem?_eq_getElem hj
  obtain ⟨e1, t, e2⟩ := h.2.2.2 _ _ hg
  have e3 : (10 : Int) + ((g - 10).toNat : Int) = g := by omega
  rw [e3] at e1 e2
  refine ⟨t, valueAt_of_get ?_ (i := (g - 10).toNat) ?_⟩
  · rw [List.nodup_iff_pairwise_ne, List.pairwise_map, List.pairwise_iff_getElem]
    intro a b ha hb hab
    have xa := (h.2.2.2 _ _ (List.getElem?_eq_getElem ha)).1
    have xb := (h.2.2.2 _ _ (List.getElem?_eq_getElem hb)).1
    omega
  · rw [hg]
    congr 1
    exact Prod.ext e1 e2
theorem PA.merged {nr : Led} {ys : List Value} {kvs : List (Int × Value)} {i : Nat} (h : PA nr ys kvs i) : merged [] kvs = kvs := by
  refine merged_nil_of_nodup kvs ?_
  rw [List.nodup_iff_pairwise_ne, List.pairwise_map, List.pairwise_iff_getElem]
  intro a b ha hb hab
  have xa := (h.2.2.2 _ _ (List.getElem?_eq_getElem ha)).1
  have xb := (h.2.2.2 _ _ (List.getElem?_eq_getElem hb)).1
  omega
/-- the ledger while the pairs are built -/
def CB (x1 x2 : Addr × Obj) (rest : Led) (i : Nat) (ys : List Value) (nx : Led) : Prop := ∃ nr kvs, nx = x1 :: x2 :: nr ∧ (∀ p ∈ rest, p ∈ nr) ∧ (∀ p ∈ nr, p.1 ≠ x1.1) ∧ (∀ p ∈ nr, p.1 ≠ x2.1) ∧ PA nr ys kvs i
theorem CB.start {x1 x2 : Addr × Obj} {rest : Led} (h1 : ∀ p ∈ rest, p.1 ≠ x1.1) (h2 : ∀ p ∈ rest, p.1 ≠ x2.1) : CB x1 x2 rest 0 [] (x1 :: x2 :: rest) := ⟨rest, [], rfl, fun _ h => h, h1, h2, PA.nil⟩
theorem CB.turn {x1 x2 : Addr × Obj} {rest nr : Led} {i n : Nat} {ys : List Value} {kvs : List (Int × Value)} {T I C D L : Addr} {oI oC oD : Obj} {t0 tg : Tok} {h₀ h' : Heap} {m : Str → Option Value} {s₁ : Shared} {tk : Nat}
    (hs : ∀ p ∈ rest, p ∈ nr) (h1 : ∀ p ∈ nr, p.1 ≠ x1.1) (h2 : ∀ p ∈ nr, p.1 ≠ x2.1) (hA : PA nr ys kvs i)
    (off : LCg.Off3 I C D (x1 :: x2 :: nr)) (F : Fr h₀ L h' m) (N : News h₀ L h' ((T, tupO [.int (10 + (i : Int)) t0, .int (10 + (i : Int) + 1) tg] n) :: (I, oI) :: (C, oC) :: (D, oD) :: x1 :: x2 :: nr))
    (u : ∀ p ∈ (I, oI) :: (C, oC) :: (D, oD) :: x1 :: x2 :: nr, p.1 ≠ T) :
    LCg.CompEnd h₀ L m s₁ I oI C oC D oD (fun _ => True) (fun y nx' => CB x1 x2 rest (i + 1) (ys ++ [y]) nx') (.ref T) { s₁ with heap := h', toks := tk } := by
  have q : ∀ {p : Addr × Obj}, p ∈ (I, oI) :: (C, oC) :: (D, oD) :: x1 :: x2 :: nr → T ≠ p.1 := fun hp => (u _ hp).symm
  refine comp_endS (nx := x1 :: x2 :: (T, tupO [.int (10 + (i : Int)) t0, .int (10 + (i : Int) + 1) tg] n) :: nr) F N ?_ ⟨off.1, off.2.1, ⟨q (.head _), q (.tail _ (.head _)), q (.tail _ (.tail _ (.head _)))⟩, off.2.2⟩ trivial
    ⟨_, kvs ++ [(10 + (i : Int), .int (10 + (i : Int) + 1) tg)], rfl, fun p hp => .tail _ (hs p hp), all_cons (q (.tail _ (.tail _ (.tail _ (.head _))))) h1, all_cons (q (.tail _ (.tail _ (.tail _ (.tail _ (.head _)))))) h2, (hA.mono fun _ hp => .tail _ hp).snoc (n := n) (t := t0) (.head _)⟩
  intro p hp
  revert p hp
  repeat (refine List.forall_mem_cons.mpr ⟨by repeat (first | exact List.Mem.head _ | refine List.mem_cons_of_mem _ ?_), ?_⟩)
  intro p hp
  repeat (refine List.mem_cons_of_mem _ ?_)
  exact hp
theorem PA.at {nr l : Led} {ys : List Value} {kvs : List (Int × Value)} {i : Nat} (h : PA nr ys kvs i) (s : ∀ p ∈ nr, p ∈ l) : ∀ (j : Nat) (v : Value), ys[j]? = some v → ∃ (p : Addr) (k : Int) (t : Tok) (x : Value) (c : Nat), v = .ref p ∧ kvs[j]? = some (k, x) ∧ (p, ({ cls := .type "tuple", data := .seq [Value.int k t, x].toArray c } : Obj)) ∈ l := (h.mono s).2.2.1
theorem PA.len {nr : Led} {ys : List Value} {kvs : List (Int × Value)} {i : Nat} (h : PA nr ys kvs i) : ys.length = kvs.length := h.1.trans h.2.1.symm
theorem LksAre.three {w : World} {l : Led} {ks : List Value} {r0 r1 r2 : List Int} (h : LksAre w l ks [r0, r1, r2]) : ∃ k0 k1 k2, ks = [.ref k0, .ref k1, .ref k2] ∧ ChainLk w l k0 r0 ∧ ChainLk w l k1 r1 ∧ ChainLk w l k2 r2 := by
  have snoc : ∀ {vs : List Value} {rows : List (List Int)}, LksAre w l vs rows → rows ≠ [] → ∃ (vs' : List Value) (k : Addr) (rows' : List (List Int)) (r : List Int), vs = vs' ++ [.ref k] ∧ rows = rows' ++ [r] ∧ LksAre w l vs' rows' ∧ ChainLk w l k r := by
    intro vs rows h hn
    cases h with
    | nil => exact absurd rfl hn
    | snoc h1 h2 => exact ⟨_, _, _, _, rfl, rfl, h1, h2⟩
  obtain ⟨v2, k2, w2, x2, rfl, e2, h2, c2⟩ := snoc h (by simp)
  obtain ⟨e2', e2''⟩ := List.append_inj' (show [r0, r1] ++ [r2] = w2 ++ [x2] from e2) rfl
  subst e2'
  obtain ⟨v1, k1, w1, x1, rfl, e1, h1, c1⟩ := snoc h2 (by simp)
  obtain ⟨e1', e1''⟩ := List.append_inj' (show [r0] ++ [r1] = w1 ++ [x1] from e1) rfl
  subst e1'
  obtain ⟨v0, k0, w0, x0, rfl, e0, h0, c0⟩ := snoc h1 (by simp)
  obtain ⟨e0', e0''⟩ := List.append_inj' (show [] ++ [r0] = w0 ++ [x0] from e0) rfl
  subst e0'
  obtain rfl : v0 = [] := List.eq_nil_of_length_eq_zero h0.length
  injection e0'' with e0''
  injection e1'' with e1''
  injection e2'' with e2''
  subst e0'' e1'' e2''
  exact ⟨k0, k1, k2, rfl, c0, c1, c2⟩
/-- all four lookups stand -/
theorem lks_done {w : World} {K : Addr} {rest3 nr : Led} {c' n1 : Nat} {ks ys : List Value} {kvs : List (Int × Value)} {r0 r1 r2 : List Int} {x ld tl si sd mp lc d9 : Addr} {o olc o9 : Obj} {t5 : Tok} {TL : Nat → Tok} {v3 : Value} {h₀ h' : Heap} {L : Addr}
    (Nf : ∀ nx, (∀ p ∈ nx, p ∈ (x, instObj 43 ld) :: (ld, lkO w "single" tl TL v3) :: (tl, listOf #[.ref si] n1) :: (si, instObj 607 sd) :: (sd, dictOf [⟨PyData.keyHash w.params (PySem.Str.ofString "mapping"), .str (PySem.Str.ofString "mapping") t5, .ref mp⟩] 1) :: (mp, o) :: (lc, olc) :: (d9, o9) :: (K, listOf ks.toArray c') :: nr) →
      (∀ p ∈ nx, p.1 ≠ K) → News h₀ L h' ((K, listOf (ks.toArray.push (.ref x)) (c' + 1)) :: nx))
    (hrn : ∀ p ∈ rest3, p ∈ nr) (hK : ∀ p ∈ nr, p.1 ≠ K) (hks : LksAre w rest3 ks [r0, r1, r2]) (hPA : PA nr ys kvs 270) (hmp : (mp == sysModules) = false) (hD : o.IsDictOf (PySem.intKind PR w) (merged [] kvs))
    (ux : ∀ p ∈ (tl, listOf #[.ref si] n1) :: (si, instObj 607 sd) :: (sd, dictOf [⟨PyData.keyHash w.params (PySem.Str.ofString "mapping"), .str (PySem.Str.ofString "mapping") t5, .ref mp⟩] 1) :: (mp, o) :: (lc, olc) :: (d9, o9) :: (K, listOf ks.toArray c') :: nr, p.1 ≠ x)
    (uld : ∀ p ∈ (tl, listOf #[.ref si] n1) :: (si, instObj 607 sd) :: (sd, dictOf [⟨PyData.keyHash w.params (PySem.Str.ofString "mapping"), .str (PySem.Str.ofString "mapping") t5, .ref mp⟩] 1) :: (mp, o) :: (lc, olc) :: (d9, o9) :: (K, listOf ks.toArray c') :: nr, p.1 ≠ ld)
    (utl : ∀ p ∈ (si, instObj 607 sd) :: (sd, dictOf [⟨PyData.keyHash w.params (PySem.Str.ofString "mapping"), .str (PySem.Str.ofString "mapping") t5, .ref mp⟩] 1) :: (mp, o) :: (lc, olc) :: (d9, o9) :: (K, listOf ks.toArray c') :: nr, p.1 ≠ tl)
    (usi : ∀ p ∈ (mp, o) :: (lc, olc) :: (d9, o9) :: (K, listOf ks.toArray c') :: nr, p.1 ≠ si)
    (usd : ∀ p ∈ (mp, o) :: (lc, olc) :: (d9, o9) :: (K, listOf ks.toArray c') :: nr, p.1 ≠ sd)
    (ump : ∀ p ∈ (lc, olc) :: (d9, o9) :: (K, listOf ks.toArray c') :: nr, p.1 < mp) :
    ∃ base k0 k1 k2, News h₀ L h' base ∧ AllIn w base K k0 k1 k2 x r0 r1 r2 ∧ ∀ p ∈ nr, p ∈ base := by
  obtain ⟨k0, k1, k2, rfl, c0, c1, c2⟩ := hks.three
  have q : ∀ {D : Addr} {l : Led}, (∀ p ∈ l, p.1 ≠ D) → (K, listOf [Value.ref k0, .ref k1, .ref k2].toArray c') ∈ l → D ≠ K := fun h hm => ne_in h hm
  refine ⟨_, k0, k1, k2, Nf ((x, instObj 43 ld) :: (ld, lkO w "single" tl TL v3) :: (tl, listOf #[.ref si] n1) :: (si, instObj 607 sd) :: (sd, dictOf [⟨PyData.keyHash w.params (PySem.Str.ofString "mapping"), .str (PySem.Str.ofString "mapping") t5, .ref mp⟩] 1) :: (mp, o) :: nr) ?_ ?_, ?_, ?_⟩
  · repeat (refine List.forall_mem_cons.mpr ⟨by repeat (first | exact List.Mem.head _ | refine List.mem_cons_of_mem _ ?_), ?_⟩)
    intro p hp
    repeat (refine List.mem_cons_of_mem _ ?_)
    exact hp
  · exact all_cons (q ux (by simp)) (all_cons (q uld (by simp)) (all_cons (q utl (by simp)) (all_cons (q usi (by simp)) (all_cons (q usd (by simp)) (all_cons (q (ltA_ne ump) (by simp)) hK)))))
  · have up : ∀ {x1 x2 x3 x4 x5 x6 x7 : Addr × Obj}, ∀ p ∈ rest3, p ∈ x1 :: x2 :: x3 :: x4 :: x5 :: x6 :: x7 :: nr := fun p hp => by
      repeat (refine List.mem_cons_of_mem _ ?_)
      exact hrn p hp
    refine ⟨⟨_, .head _⟩, c0.mono up, c1.mono up, c2.mono up, si, ⟨ld, tl, n1, TL, v3, ?_, ?_, ?_⟩, sd, mp, o, kvs, t5, ?_, ?_, ?_, hmp, ?hDD, fun g h0 h1 => hPA.get h0 (by omega)⟩
    case hDD => rw [hPA.merged] at hD; exact hD
    all_goals
      repeat (first | exact List.Mem.head _ | refine List.mem_cons_of_mem _ ?_)
  · intro p hp
    repeat (refine List.mem_cons_of_mem _ ?_)
    exact hp
theorem comp_rng {prog : Program} {w : World} {A : Around} {h₀ : Heap} {L : Addr} {m : Str → Option Value} {env : Env} {elt : Expr} {x : Str} {scope : Scope} {cl : List (Str × Addr)} {Fin : Shared → List Value → List (Addr × Obj) → Prop} {r : Addr} {a b : Int} {t u v : Tok} {n : Nat} {news : List (Addr × Obj)} {s₁ : Shared}
    (hh : A.handled = none) (F : Fr h₀ L s₁.heap m) (N : News h₀ L s₁.heap news) (hm : (r, rngO a b t u v) ∈ news) (hsm : Builtin.Range.small a b 1 = true) (hn : Builtin.Range.rangeSize a b 1 = ((n : Nat) : Int)) (hsz : n ≤ sizeLine)
    (h : ∀ g, LCg.CompRest prog w A h₀ L m env elt x scope cl { s₁ with heap := g } (fun _ => True) (fun i v => ∃ t, v = .int (a + (i : Int)) t) (Fin { s₁ with heap := g }) n 0 [] news) :
    LCg.CompSrc prog w A h₀ L m env elt x scope cl Fin (.ref r) s₁ := LCg.CompSrc.range hh F N (N _ hm).1 hsm hn hsz h
theorem bt_split {bt : Addr} {t : Tok} {n : Nat} {l : Led} (h : (bt, listOf (List.replicate n [Value.int 5 t]).flatten.toArray 0) ∈ l) (hn : n ≤ 1) : (bt, listOf #[] 0) ∈ l ∨ (bt, listOf #[.int 5 t] 0) ∈ l := by
  match n, hn with
  | 0, _ => exact .inl h
  | 1, _ => exact .inr h
section
local macro_rules | `(tactic| walk_at "eval ListComp") => `(tactic| walk_at "LC2")
local macro_rules | `(tactic| walk_at "CompSrc") => `(tactic| walk_at "CSRC")
local macro_rules | `(tactic| walk_at "CompEnd") => `(tactic| walk_at "HOLD")
set_option maxHeartbeats 2000000 in
theorem c_gl2 {w : World} {mean : ExcName → Option Value} {mg mb : Str → Option Value} {rest : Led} {b row x1 x2 d1 d2 : Addr} {o1 o2 : Obj} {g1 g2 : Int} (hb : BufIn w rest b row [.ref x1, .ref x2])
    (h1 : (x1, instObj 142 d1) ∈ rest) (h2 : (x2, instObj 142 d2) ∈ rest) (k1 : (d1, o1) ∈ rest) (k2 : (d2, o2) ∈ rest) (i1 : InfD w o1 g1) (i2 : InfD w o2 g2) :
    Con w mean mg mb 166 12 400 [.ref b] rest (fun kq => ∀ D t1 t2, (∀ p ∈ rest, p.1 ≠ D) → kq (.ref D) ((D, LCg.lst [.int g1 t1, .int g2 t2]) :: rest)) := by
  refine hb.elim fun bd bc TB VB m1 m2 m3 => ?_
  obtain ⟨tg1, tm1, TI1, VI1, rfl⟩ := i1
  obtain ⟨tg2, tm2, TI2, VI2, rfl⟩ := i2
  unfold Con
  have hfill : (PySem.Challenge.rw_pf0148_01, hd.heap_39) = (PySem.Challenge.rw_pf0148_01, hd.heap_39) := rfl
  intro dp un gd nm cs a ccd cl outer A₀ base h₀ L m s Q E B F X N T hk hdp hun hret
  revert hfill
  k_fill
  intro hfill; clear hfill
  have hMk := kstMark
  k_with_none
  refine wpAny_call ?_
  k_dflt ktr_enter
  (k_steps; (all_goals (try ((with_reducible refine unheld ?_); (first | (refine' comp_end ?k1_361 ?k2_361 ?p1_361 ?p2_361 ?p3_361 ?k3_361 ?k4_361 ?_; (case k1_361 => k_asm); (case k2_361 => k_asm); (case p1_361 => (walk_at "PICK")); (case p2_361 => (walk_at "PICK")); (case p3_361 => (walk_at "PICK")); (case k3_361 => lcg_off); (case k4_361 => first | k_mem | exact Or.inr ⟨_, by k_mem, rfl, _, rfl⟩)) | fin_once hold walk1 | fail); (try k_steps)))); (all_goals (try ((with_reducible refine unheld ?_); (first | (refine' comp_end ?k1_362 ?k2_362 ?p1_362 ?p2_362 ?p3_362 ?k3_362 ?k4_362 ?_; (case k1_362 => k_asm); (case k2_362 => k_asm); (case p1_362 => (walk_at "PICK")); (case p2_362 => (walk_at "PICK")); (case p3_362 => (walk_at "PICK")); (case k3_362 => lcg_off); (case k4_362 => first | k_mem | exact Or.inr ⟨_, by k_mem, rfl, _, rfl⟩)) | fin_once hold walk1 | fail); (try k_steps)))); (all_goals (try ((with_reducible refine unheld ?_); (first | (refine' comp_end ?k1_363 ?k2_363 ?p1_363 ?p2_363 ?p3_363 ?k3_363 ?k4_363 ?_; (case k1_363 => k_asm); (case k2_363 => k_asm); (case p1_363 => (walk_at "PICK")); (case p2_363 => (walk_at "PICK")); (case p3_363 => (walk_at "PICK")); (case k3_363 => lcg_off); (case k4_363 => first | k_mem | exact Or.inr ⟨_, by k_mem, rfl, _, rfl⟩)) | fin_once hold walk1 | fail); (try k_steps)))); (all_goals (try ((with_reducible refine unheld ?_); (first | (refine' comp_end ?k1_364 ?k2_364 ?p1_364 ?p2_364 ?p3_364 ?k3_364 ?k4_364 ?_; (case k1_364 => k_asm); (case k2_364 => k_asm); (case p1_364 => (walk_at "PICK")); (case p2_364 => (walk_at "PICK")); (case p3_364 => (walk_at "PICK")); (case k3_364 => lcg_off); (case k4_364 => first | k_mem | exact Or.inr ⟨_, by k_mem, rfl, _, rfl⟩)) | fin_once hold walk1 | fail); (try k_steps)))))
  refine' hret _ _ _ ?z1 _ _ (by k_asm) (cb_drop (by assumption) ?zd)
  case zd => walk_at "SUB"
  all_goals (walk_at "NE")
set_option maxHeartbeats 2000000 in
theorem c_gl3 {w : World} {mean : ExcName → Option Value} {mg mb : Str → Option Value} {rest : Led} {b row x1 x2 x3 d1 d2 d3 : Addr} {o1 o2 o3 : Obj} {g1 g2 g3 : Int} (hb : BufIn w rest b row [.ref x1, .ref x2, .ref x3])
    (h1 : (x1, instObj 142 d1) ∈ rest) (h2 : (x2, instObj 142 d2) ∈ rest) (h3 : (x3, instObj 142 d3) ∈ rest) (k1 : (d1, o1) ∈ rest) (k2 : (d2, o2) ∈ rest) (k3 : (d3, o3) ∈ rest) (i1 : InfD w o1 g1) (i2 : InfD w o2 g2) (i3 : InfD w o3 g3) :
    Con w mean mg mb 166 12 400 [.ref b] rest (fun kq => ∀ D t1 t2 t3, (∀ p ∈ rest, p.1 ≠ D) → kq (.ref D) ((D, LCg.lst [.int g1 t1, .int g2 t2, .int g3 t3]) :: rest)) := by
  refine hb.elim fun bd bc TB VB m1 m2 m3 => ?_
  obtain ⟨tg3, tm3, TI3, VI3, rfl⟩ := i1
  obtain ⟨tg4, tm4, TI4, VI4, rfl⟩ := i2
  obtain ⟨tg5, tm5, TI5, VI5, rfl⟩ := i3
  unfold Con
  have hfill : (PySem.Challenge.rw_pf0148_01, hd.heap_39) = (PySem.Challenge.rw_pf0148_01, hd.heap_39) := rfl
  intro dp un gd nm cs a ccd cl outer A₀ base h₀ L m s Q E B F X N T hk hdp hun hret
  revert hfill
  k_fill
  intro hfill; clear hfill
  have hMk := kstMark
  k_with_none
  refine wpAny_call ?_
  k_dflt ktr_enter
  (k_steps; (all_goals (try ((with_reducible refine unheld ?_); (first | (refine' comp_end ?k1_365 ?k2_365 ?p1_365 ?p2_365 ?p3_365 ?k3_365 ?k4_365 ?_; (case k1_365 => k_asm); (case k2_365 => k_asm); (case p1_365 => (walk_at "PICK")); (case p2_365 => (walk_at "PICK")); (case p3_365 => (walk_at "PICK")); (case k3_365 => lcg_off); (case k4_365 => first | k_mem | exact Or.inr ⟨_, by k_mem, rfl, _, rfl⟩)) | fin_once hold walk1 | fail); (try k_steps)))); (all_goals (try ((with_reducible refine unheld ?_); (first | (refine' comp_end ?k1_366 ?k2_366 ?p1_366 ?p2_366 ?p3_366 ?k3_366 ?k4_366 ?_; (case k1_366 => k_asm); (case k2_366 => k_asm); (case p1_366 => (walk_at "PICK")); (case p2_366 => (walk_at "PICK")); (case p3_366 => (walk_at "PICK")); (case k3_366 => lcg_off); (case k4_366 => first | k_mem | exact Or.inr ⟨_, by k_mem, rfl, _, rfl⟩)) | fin_once hold walk1 | fail); (try k_steps)))); (all_goals (try ((with_reducible refine unheld ?_); (first | (refine' comp_end ?k1_367 ?k2_367 ?p1_367 ?p2_367 ?p3_367 ?k3_367 ?k4_367 ?_; (case k1_367 => k_asm); (case k2_367 => k_asm); (case p1_367 => (walk_at "PICK")); (case p2_367 => (walk_at "PICK")); (case p3_367 => (walk_at "PICK")); (case k3_367 => lcg_off); (case k4_367 => first | k_mem | exact Or.inr ⟨_, by k_mem, rfl, _, rfl⟩)) | fin_once hold walk1 | fail); (try k_steps)))); (all_goals (try ((with_reducible refine unheld ?_); (first | (refine' comp_end ?k1_368 ?k2_368 ?p1_368 ?p2_368 ?p3_368 ?k3_368 ?k4_368 ?_; (case k1_368 => k_asm); (case k2_368 => k_asm); (case p1_368 => (walk_at "PICK")); (case p2_368 => (walk_at "PICK")); (case p3_368 => (walk_at "PICK")); (case k3_368 => lcg_off); (case k4_368 => first | k_mem | exact Or.inr ⟨_, by k_mem, rfl, _, rfl⟩)) | fin_once hold walk1 | fail); (try k_steps)))))
  refine' hret _ _ _ _ ?z1 _ _ (by k_asm) (cb_drop (by assumption) ?zd)
  case zd => walk_at "SUB"
  all_goals (walk_at "NE")
end
/-- the infos made so far -/
inductive IM (w : World) (base : Led) : List Value → List Int → Led → Prop
  | nil : IM w base [] [] base
  | snoc {ys : List Value} {gs : List Int} {nx : Led} {x d : Addr} {o : Obj} {g : Int} : IM w base ys gs nx → InfV w o g → (∀ p ∈ nx, p.1 ≠ x) → (∀ p ∈ nx, p.1 ≠ d) → IM w base (ys ++ [.ref x]) (gs ++ [g]) ((x, instObj 142 d) :: (d, o) :: nx)
theorem IM.sub {w : World} {base : Led} {ys : List Value} {gs : List Int} {nx : Led} (h : IM w base ys gs nx) : ∀ p ∈ base, p ∈ nx := by
  induction h with
  | nil => exact fun _ h => h
  | snoc _ _ _ _ ih => exact fun p hp => .tail _ (.tail _ (ih p hp))
theorem IM.length {w : World} {base : Led} {ys : List Value} {gs : List Int} {nx : Led} (h : IM w base ys gs nx) : ys.length = gs.length := by
  induction h with
  | nil => rfl
  | snoc _ _ _ _ ih => simp [ih]
theorem IM.back {w : World} {base : Led} {ys : List Value} {gs : List Int} {g : Int} {nx : Led} (h : IM w base ys (gs ++ [g]) nx) :
    ∃ ys' nx' x d o, ys = ys' ++ [.ref x] ∧ nx = (x, instObj 142 d) :: (d, o) :: nx' ∧ IM w base ys' gs nx' ∧ InfV w o g ∧ (∀ p ∈ nx', p.1 ≠ x) ∧ (∀ p ∈ nx', p.1 ≠ d) := by
  generalize e : gs ++ [g] = gs2 at h
  cases h with
  | nil => exact absurd e (by simp)
  | snoc h1 h2 h3 h4 =>
    obtain ⟨e1, e2⟩ := List.append_inj' e rfl
    injection e2 with e2
    subst e1 e2
    exact ⟨_, _, _, _, _, rfl, rfl, h1, h2, h3, h4⟩
theorem IM.none {w : World} {base : Led} {ys : List Value} {nx : Led} (h : IM w base ys [] nx) : ys = [] ∧ nx = base := by
  generalize e : ([] : List Int) = gs at h
  cases h with
  | nil => exact ⟨rfl, rfl⟩
  | snoc => exact absurd e (by simp)
theorem IM.two {w : World} {base : Led} {ys : List Value} {g1 g2 : Int} {nx : Led} (h : IM w base ys [g1, g2] nx) :
    ∃ x1 d1 o1 x2 d2 o2, ys = [.ref x1, .ref x2] ∧ nx = (x2, instObj 142 d2) :: (d2, o2) :: (x1, instObj 142 d1) :: (d1, o1) :: base ∧ InfV w o1 g1 ∧ InfV w o2 g2 ∧ (∀ p ∈ base, p.1 ≠ x1) ∧ (∀ p ∈ base, p.1 ≠ d1) ∧
      (∀ p ∈ (x1, instObj 142 d1) :: (d1, o1) :: base, p.1 ≠ x2) ∧ (∀ p ∈ (x1, instObj 142 d1) :: (d1, o1) :: base, p.1 ≠ d2) := by
  obtain ⟨y1, n1, x2, d2, o2, rfl, rfl, h1, a1, a2, a3⟩ := IM.back (gs := [g1]) h
  obtain ⟨y0, n0, x1, d1, o1, rfl, rfl, h0, b1, b2, b3⟩ := IM.back (gs := []) h1
  obtain ⟨rfl, rfl⟩ := h0.none
  exact ⟨x1, d1, o1, x2, d2, o2, rfl, rfl, b1, a1, b2, b3, a2, a3⟩
theorem IM.three {w : World} {base : Led} {ys : List Value} {g1 g2 g3 : Int} {nx : Led} (h : IM w base ys [g1, g2, g3] nx) :
    ∃ x1 d1 o1 x2 d2 o2 x3 d3 o3, ys = [.ref x1, .ref x2, .ref x3] ∧ nx = (x3, instObj 142 d3) :: (d3, o3) :: (x2, instObj 142 d2) :: (d2, o2) :: (x1, instObj 142 d1) :: (d1, o1) :: base ∧ InfV w o1 g1 ∧ InfV w o2 g2 ∧ InfV w o3 g3 ∧ (∀ p ∈ base, p.1 ≠ x1) ∧ (∀ p ∈ base, p.1 ≠ d1) ∧
      (∀ p ∈ (x1, instObj 142 d1) :: (d1, o1) :: base, p.1 ≠ x2) ∧ (∀ p ∈ (x1, instObj 142 d1) :: (d1, o1) :: base, p.1 ≠ d2) ∧ (∀ p ∈ (x2, instObj 142 d2) :: (d2, o2) :: (x1, instObj 142 d1) :: (d1, o1) :: base, p.1 ≠ x3) ∧ (∀ p ∈ (x2, instObj 142 d2) :: (d2, o2) :: (x1, instObj 142 d1) :: (d1, o1) :: base, p.1 ≠ d3) := by
  obtain ⟨y2, n2, x3, d3, o3, rfl, rfl, h2, c1, c2, c3⟩ := IM.back (gs := [g1, g2]) h
  obtain ⟨x1, d1, o1, x2, d2, o2, rfl, rfl, b1, b2, b3, b4, b5, b6⟩ := h2.two
  exact ⟨x1, d1, o1, x2, d2, o2, x3, d3, o3, rfl, rfl, b1, b2, c1, b3, b4, b5, b6, c2, c3⟩
def IJ (w : World) (base : Led) (gs : List Int) (i : Nat) (ys : List Value) (nx : Led) : Prop := IM w base ys (gs.take i) nx
theorem IJ.start {w : World} {base : Led} {gs : List Int} : IJ w base gs 0 [] base := .nil
theorem IJ.turn {w : World} {base nx : Led} {gs : List Int} {i : Nat} {ys : List Value} {g : Int} {x d e it C D L : Addr} {o oe oi oC : Obj} {h₀ h' : Heap} {m : Str → Option Value} {s₁ : Shared} {tk : Nat}
    (hg : gs[i]? = some g) (hJ : IJ w base gs i ys nx) (off : ∀ p ∈ nx, p.1 ≠ e ∧ p.1 ≠ it ∧ p.1 ≠ C ∧ p.1 ≠ D) (hV : InfV w o g) (F : Fr h₀ L h' m) (N : News h₀ L h' ((x, instObj 142 d) :: (d, o) :: (e, oe) :: (it, oi) :: (C, oC) :: (D, LCg.lst ys) :: nx))
    (ux : ∀ p ∈ (e, oe) :: (it, oi) :: (C, oC) :: (D, LCg.lst ys) :: nx, p.1 ≠ x) (ud : ∀ p ∈ (e, oe) :: (it, oi) :: (C, oC) :: (D, LCg.lst ys) :: nx, p.1 ≠ d) :
    EEnd h₀ L m s₁ e it C D oe oi oC (LCg.lst ys) (fun y nx' => IJ w base gs (i + 1) (ys ++ [y]) nx') (.ref x) { s₁ with heap := h', toks := tk } := by
  have q : ∀ {z : Addr}, (∀ p ∈ (e, oe) :: (it, oi) :: (C, oC) :: (D, LCg.lst ys) :: nx, p.1 ≠ z) → z ≠ e ∧ z ≠ it ∧ z ≠ C ∧ z ≠ D := fun h => ⟨(h _ (.head _)).symm, (h _ (.tail _ (.head _))).symm, (h _ (.tail _ (.tail _ (.head _)))).symm, (h _ (.tail _ (.tail _ (.tail _ (.head _))))).symm⟩
  refine ⟨h', tk, (x, instObj 142 d) :: (d, o) :: nx, rfl, F, fun p hp => N p ?_, ?_, ?_⟩
  · revert p hp
    repeat (refine List.forall_mem_cons.mpr ⟨by repeat (first | exact List.Mem.head _ | refine List.mem_cons_of_mem _ ?_), ?_⟩)
    intro p hp
    repeat (refine List.mem_cons_of_mem _ ?_)
    exact hp
  · exact List.forall_mem_cons.mpr ⟨q ux, List.forall_mem_cons.mpr ⟨q ud, off⟩⟩
  · have up : ∀ p ∈ nx, p ∈ (e, oe) :: (it, oi) :: (C, oC) :: (D, LCg.lst ys) :: nx := fun p hp => .tail _ (.tail _ (.tail _ (.tail _ hp)))
    show IM w base (ys ++ [.ref x]) (gs.take (i + 1)) _
    rw [List.take_add_one, hg]
    exact IM.snoc hJ hV (fun p hp => ux p (up p hp)) (fun p hp => ud p (up p hp))
def MK2 (w : World) (IL x1 d1 x2 d2 : Addr) (g1 g2 : Int) (base : Led) (n : Nat) (i : Nat) (nx : Led) : Prop := ∃ o1 o2, nx = (IL, listOf #[.ref x1, .ref x2] n) :: (x2, instObj 142 d2) :: (d2, o2) :: (x1, instObj 142 d1) :: (d1, o1) :: base ∧ InfV w o1 g1 ∧ InfV w o2 g2 ∧ (0 < i → InfD w o1 g1) ∧ (1 < i → InfD w o2 g2)
theorem InfD.v {w : World} {o : Obj} {g : Int} (h : InfD w o g) : InfV w o g := by
  obtain ⟨tg, tm, T, V, rfl⟩ := h
  exact ⟨_, _, _, _, rfl⟩
theorem MK2.start {w : World} {IL x1 d1 x2 d2 : Addr} {g1 g2 : Int} {base : Led} {n : Nat} {o1 o2 : Obj} (h1 : InfV w o1 g1) (h2 : InfV w o2 g2) : MK2 w IL x1 d1 x2 d2 g1 g2 base n 0 ((IL, listOf #[.ref x1, .ref x2] n) :: (x2, instObj 142 d2) :: (d2, o2) :: (x1, instObj 142 d1) :: (d1, o1) :: base) := ⟨o1, o2, rfl, h1, h2, fun h => absurd h (by omega), fun h => absurd h (by omega)⟩
theorem MK2.s0 {w : World} {IL x1 d1 x2 d2 : Addr} {g1 g2 : Int} {base : Led} {n : Nat} {o1 o2 : Obj} (h1 : InfD w o1 g1) (h2 : InfV w o2 g2) : MK2 w IL x1 d1 x2 d2 g1 g2 base n (0 + 1) ((IL, listOf #[.ref x1, .ref x2] n) :: (x2, instObj 142 d2) :: (d2, o2) :: (x1, instObj 142 d1) :: (d1, o1) :: base) := ⟨o1, o2, rfl, h1.v, h2, fun _ => h1, fun h => absurd h (by omega)⟩
theorem MK2.s1 {w : World} {IL x1 d1 x2 d2 : Addr} {g1 g2 : Int} {base : Led} {n : Nat} {o1 o2 : Obj} (h1 : InfD w o1 g1) (h2 : InfD w o2 g2) : MK2 w IL x1 d1 x2 d2 g1 g2 base n (1 + 1) ((IL, listOf #[.ref x1, .ref x2] n) :: (x2, instObj 142 d2) :: (d2, o2) :: (x1, instObj 142 d1) :: (d1, o1) :: base) := ⟨o1, o2, rfl, h1.v, h2.v, fun _ => h1, fun _ => h2⟩
def MK3 (w : World) (IL x1 d1 x2 d2 x3 d3 : Addr) (g1 g2 g3 : Int) (base : Led) (n : Nat) (i : Nat) (nx : Led) : Prop := ∃ o1 o2 o3, nx = (IL, listOf #[.ref x1, .ref x2, .ref x3] n) :: (x3, instObj 142 d3) :: (d3, o3) :: (x2, instObj 142 d2) :: (d2, o2) :: (x1, instObj 142 d1) :: (d1, o1) :: base ∧ InfV w o1 g1 ∧ InfV w o2 g2 ∧ InfV w o3 g3 ∧ (0 < i → InfD w o1 g1) ∧ (1 < i → InfD w o2 g2) ∧ (2 < i → InfD w o3 g3)
theorem MK3.start {w : World} {IL x1 d1 x2 d2 x3 d3 : Addr} {g1 g2 g3 : Int} {base : Led} {n : Nat} {o1 o2 o3 : Obj} (h1 : InfV w o1 g1) (h2 : InfV w o2 g2) (h3 : InfV w o3 g3) : MK3 w IL x1 d1 x2 d2 x3 d3 g1 g2 g3 base n 0 ((IL, listOf #[.ref x1, .ref x2, .ref x3] n) :: (x3, instObj 142 d3) :: (d3, o3) :: (x2, instObj 142 d2) :: (d2, o2) :: (x1, instObj 142 d1) :: (d1, o1) :: base) := ⟨o1, o2, o3, rfl, h1, h2, h3, fun h => absurd h (by omega), fun h => absurd h (by omega), fun h => absurd h (by omega)⟩
theorem MK3.s0 {w : World} {IL x1 d1 x2 d2 x3 d3 : Addr} {g1 g2 g3 : Int} {base : Led} {n : Nat} {o1 o2 o3 : Obj} (h1 : InfD w o1 g1) (h2 : InfV w o2 g2) (h3 : InfV w o3 g3) : MK3 w IL x1 d1 x2 d2 x3 d3 g1 g2 g3 base n (0 + 1) ((IL, listOf #[.ref x1, .ref x2, .ref x3] n) :: (x3, instObj 142 d3) :: (d3, o3) :: (x2, instObj 142 d2) :: (d2, o2) :: (x1, instObj 142 d1) :: (d1, o1) :: base) := ⟨o1, o2, o3, rfl, h1.v, h2, h3, fun _ => h1, fun h => absurd h (by omega), fun h => absurd h (by omega)⟩
theorem MK3.s1 {w : World} {IL x1 d1 x2 d2 x3 d3 : Addr} {g1 g2 g3 : Int} {base : Led} {n : Nat} {o1 o2 o3 : Obj} (h1 : InfD w o1 g1) (h2 : InfD w o2 g2) (h3 : InfV w o3 g3) : MK3 w IL x1 d1 x2 d2 x3 d3 g1 g2 g3 base n (1 + 1) ((IL, listOf #[.ref x1, .ref x2, .ref x3] n) :: (x3, instObj 142 d3) :: (d3, o3) :: (x2, instObj 142 d2) :: (d2, o2) :: (x1, instObj 142 d1) :: (d1, o1) :: base) := ⟨o1, o2, o3, rfl, h1.v, h2.v, h3, fun _ => h1, fun _ => h2, fun h => absurd h (by omega)⟩
theorem MK3.s2 {w : World} {IL x1 d1 x2 d2 x3 d3 : Addr} {g1 g2 g3 : Int} {base : Led} {n : Nat} {o1 o2 o3 : Obj} (h1 : InfD w o1 g1) (h2 : InfD w o2 g2) (h3 : InfD w o3 g3) : MK3 w IL x1 d1 x2 d2 x3 d3 g1 g2 g3 base n (2 + 1) ((IL, listOf #[.ref x1, .ref x2, .ref x3] n) :: (x3, instObj 142 d3) :: (d3, o3) :: (x2, instObj 142 d2) :: (d2, o2) :: (x1, instObj 142 d1) :: (d1, o1) :: base) := ⟨o1, o2, o3, rfl, h1.v, h2.v, h3.v, fun _ => h1, fun _ => h2, fun _ => h3⟩
/-- the ledger as run_substitution wants it -/
theorem pack2 {w : World} {h₀ h : Heap} {L gd dd cl nd nc b bd IL x1 d1 x2 d2 : Addr} {o o1 o2 : Obj} {base : Led} {n : Nat} {t0 : Tok} {TG TB : Nat → Tok} {VG VB : Nat → Value}
    (N : News h₀ L h ((gd, instObj 765 dd) :: (dd, gdO w cl TG VG) :: (cl, instObj 717 nd) :: (nd, dictOf [⟨PyData.keyHash w.params (PySem.Str.ofString "classes"), .str (PySem.Str.ofString "classes") t0, .ref nc⟩] 1) :: (nc, o) ::
      (b, instObj 193 bd) :: (bd, bufO w IL TB VB) :: (IL, listOf #[.ref x1, .ref x2] n) :: (x2, instObj 142 d2) :: (d2, o2) :: (x1, instObj 142 d1) :: (d1, o1) :: base))
    (hnc : (nc == sysModules) = false) (hD : o.IsDictOf (PySem.intKind PR w) [])
    (u : ∀ z ∈ [gd, dd, cl, nd, nc, b, bd, IL], z ≠ d1 ∧ z ≠ d2) (e1 : x1 ≠ d1) (e2 : x2 ≠ d1) (e3 : x1 ≠ d2) (e4 : x2 ≠ d2) (off1 : ∀ p ∈ base, p.1 ≠ d1) (off2 : ∀ p ∈ base, p.1 ≠ d2) :
    ∃ rest, News h₀ L h ((d1, o1) :: (d2, o2) :: rest) ∧ BufIn w rest b IL [.ref x1, .ref x2] ∧ GdefIn w rest gd ∧ (x1, instObj 142 d1) ∈ rest ∧ (x2, instObj 142 d2) ∈ rest ∧ (∀ p ∈ rest, p.1 ≠ d1) ∧ (∀ p ∈ rest, p.1 ≠ d2) ∧ ∀ p ∈ base, p ∈ rest := by
  refine ⟨(gd, instObj 765 dd) :: (dd, gdO w cl TG VG) :: (cl, instObj 717 nd) :: (nd, dictOf [⟨PyData.keyHash w.params (PySem.Str.ofString "classes"), .str (PySem.Str.ofString "classes") t0, .ref nc⟩] 1) :: (nc, o) ::
      (b, instObj 193 bd) :: (bd, bufO w IL TB VB) :: (IL, listOf #[.ref x1, .ref x2] n) :: (x2, instObj 142 d2) :: (x1, instObj 142 d1) :: base, fun p hp => N p ?_, ⟨bd, n, TB, VB, ?_, ?_, ?_⟩, ⟨dd, cl, TG, VG, ?_, ?_, nd, nc, o, t0, ?_, ?_, ?_, hnc, hD⟩, ?_, ?_, ?of1, ?of2, ?sb⟩
  · revert p hp
    repeat (refine List.forall_mem_cons.mpr ⟨by repeat (first | exact List.Mem.head _ | refine List.mem_cons_of_mem _ ?_), ?_⟩)
    intro p hp
    repeat (refine List.mem_cons_of_mem _ ?_)
    exact hp
  case of1 => exact all_cons (u gd (.head _)).1 (all_cons (u dd (.tail _ (.head _))).1 (all_cons (u cl (.tail _ (.tail _ (.head _)))).1 (all_cons (u nd (.tail _ (.tail _ (.tail _ (.head _))))).1 (all_cons (u nc (.tail _ (.tail _ (.tail _ (.tail _ (.head _)))))).1 (all_cons (u b (.tail _ (.tail _ (.tail _ (.tail _ (.tail _ (.head _))))))).1 (all_cons (u bd (.tail _ (.tail _ (.tail _ (.tail _ (.tail _ (.tail _ (.head _)))))))).1 (all_cons (u IL (.tail _ (.tail _ (.tail _ (.tail _ (.tail _ (.tail _ (.tail _ (.head _))))))))).1 (all_cons e2 (all_cons e1 off1)))))))))
  case of2 => exact all_cons (u gd (.head _)).2 (all_cons (u dd (.tail _ (.head _))).2 (all_cons (u cl (.tail _ (.tail _ (.head _)))).2 (all_cons (u nd (.tail _ (.tail _ (.tail _ (.head _))))).2 (all_cons (u nc (.tail _ (.tail _ (.tail _ (.tail _ (.head _)))))).2 (all_cons (u b (.tail _ (.tail _ (.tail _ (.tail _ (.tail _ (.head _))))))).2 (all_cons (u bd (.tail _ (.tail _ (.tail _ (.tail _ (.tail _ (.tail _ (.head _)))))))).2 (all_cons (u IL (.tail _ (.tail _ (.tail _ (.tail _ (.tail _ (.tail _ (.tail _ (.head _))))))))).2 (all_cons e4 (all_cons e3 off2)))))))))
  case sb =>
    intro p hp
    repeat (refine List.mem_cons_of_mem _ ?_)
    exact hp
  all_goals
    repeat (first | exact List.Mem.head _ | refine List.mem_cons_of_mem _ ?_)
theorem pack3 {w : World} {h₀ h : Heap} {L gd dd cl nd nc b bd IL x1 d1 x5 d5 x2 d2 : Addr} {o o1 o5 o2 : Obj} {base : Led} {n : Nat} {t0 : Tok} {TG TB : Nat → Tok} {VG VB : Nat → Value}
    (N : News h₀ L h ((gd, instObj 765 dd) :: (dd, gdO w cl TG VG) :: (cl, instObj 717 nd) :: (nd, dictOf [⟨PyData.keyHash w.params (PySem.Str.ofString "classes"), .str (PySem.Str.ofString "classes") t0, .ref nc⟩] 1) :: (nc, o) ::
      (b, instObj 193 bd) :: (bd, bufO w IL TB VB) :: (IL, listOf #[.ref x1, .ref x5, .ref x2] n) :: (x2, instObj 142 d2) :: (d2, o2) :: (x5, instObj 142 d5) :: (d5, o5) :: (x1, instObj 142 d1) :: (d1, o1) :: base))
    (hnc : (nc == sysModules) = false) (hD : o.IsDictOf (PySem.intKind PR w) [])
    (u : ∀ z ∈ [gd, dd, cl, nd, nc, b, bd, IL, x5, d5], z ≠ d1 ∧ z ≠ d2) (e1 : x1 ≠ d1) (e2 : x2 ≠ d1) (e3 : x1 ≠ d2) (e4 : x2 ≠ d2) (off1 : ∀ p ∈ base, p.1 ≠ d1) (off2 : ∀ p ∈ base, p.1 ≠ d2) :
    ∃ rest, News h₀ L h ((d1, o1) :: (d2, o2) :: rest) ∧ BufIn w rest b IL [.ref x1, .ref x5, .ref x2] ∧ GdefIn w rest gd ∧ (x1, instObj 142 d1) ∈ rest ∧ (x2, instObj 142 d2) ∈ rest ∧ (x5, instObj 142 d5) ∈ rest ∧ (d5, o5) ∈ rest ∧ (∀ p ∈ rest, p.1 ≠ d1) ∧ (∀ p ∈ rest, p.1 ≠ d2) ∧ ∀ p ∈ base, p ∈ rest := by
  refine ⟨(gd, instObj 765 dd) :: (dd, gdO w cl TG VG) :: (cl, instObj 717 nd) :: (nd, dictOf [⟨PyData.keyHash w.params (PySem.Str.ofString "classes"), .str (PySem.Str.ofString "classes") t0, .ref nc⟩] 1) :: (nc, o) ::
      (b, instObj 193 bd) :: (bd, bufO w IL TB VB) :: (IL, listOf #[.ref x1, .ref x5, .ref x2] n) :: (x2, instObj 142 d2) :: (x5, instObj 142 d5) :: (d5, o5) :: (x1, instObj 142 d1) :: base, fun p hp => N p ?_, ⟨bd, n, TB, VB, ?_, ?_, ?_⟩, ⟨dd, cl, TG, VG, ?_, ?_, nd, nc, o, t0, ?_, ?_, ?_, hnc, hD⟩, ?_, ?_, ?_, ?_, ?of1, ?of2, ?sb⟩
  · revert p hp
    repeat (refine List.forall_mem_cons.mpr ⟨by repeat (first | exact List.Mem.head _ | refine List.mem_cons_of_mem _ ?_), ?_⟩)
    intro p hp
    repeat (refine List.mem_cons_of_mem _ ?_)
    exact hp
  case of1 => exact all_cons (u gd (.head _)).1 (all_cons (u dd (.tail _ (.head _))).1 (all_cons (u cl (.tail _ (.tail _ (.head _)))).1 (all_cons (u nd (.tail _ (.tail _ (.tail _ (.head _))))).1 (all_cons (u nc (.tail _ (.tail _ (.tail _ (.tail _ (.head _)))))).1 (all_cons (u b (.tail _ (.tail _ (.tail _ (.tail _ (.tail _ (.head _))))))).1 (all_cons (u bd (.tail _ (.tail _ (.tail _ (.tail _ (.tail _ (.tail _ (.head _)))))))).1 (all_cons (u IL (.tail _ (.tail _ (.tail _ (.tail _ (.tail _ (.tail _ (.tail _ (.head _))))))))).1 (all_cons e2 (all_cons (u x5 (.tail _ (.tail _ (.tail _ (.tail _ (.tail _ (.tail _ (.tail _ (.tail _ (.head _)))))))))).1 (all_cons (u d5 (.tail _ (.tail _ (.tail _ (.tail _ (.tail _ (.tail _ (.tail _ (.tail _ (.tail _ (.head _))))))))))).1 (all_cons e1 off1)))))))))))
  case of2 => exact all_cons (u gd (.head _)).2 (all_cons (u dd (.tail _ (.head _))).2 (all_cons (u cl (.tail _ (.tail _ (.head _)))).2 (all_cons (u nd (.tail _ (.tail _ (.tail _ (.head _))))).2 (all_cons (u nc (.tail _ (.tail _ (.tail _ (.tail _ (.head _)))))).2 (all_cons (u b (.tail _ (.tail _ (.tail _ (.tail _ (.tail _ (.head _))))))).2 (all_cons (u bd (.tail _ (.tail _ (.tail _ (.tail _ (.tail _ (.tail _ (.head _)))))))).2 (all_cons (u IL (.tail _ (.tail _ (.tail _ (.tail _ (.tail _ (.tail _ (.tail _ (.head _))))))))).2 (all_cons e4 (all_cons (u x5 (.tail _ (.tail _ (.tail _ (.tail _ (.tail _ (.tail _ (.tail _ (.tail _ (.head _)))))))))).2 (all_cons (u d5 (.tail _ (.tail _ (.tail _ (.tail _ (.tail _ (.tail _ (.tail _ (.tail _ (.tail _ (.head _))))))))))).2 (all_cons e3 off2)))))))))))
  case sb =>
    intro p hp
    repeat (refine List.mem_cons_of_mem _ ?_)
    exact hp
  all_goals
    repeat (first | exact List.Mem.head _ | refine List.mem_cons_of_mem _ ?_)
theorem InfD.of {w : World} {g : Int} {tg tm : Tok} {T : Nat → Tok} {V : Nat → Value} : InfD w (infO w g tg (.int 1 tm) T V) g := ⟨_, _, _, _, rfl⟩
theorem InfV.inst_ne {w : World} {o : Obj} {g : Int} {c d : Addr} (h : InfV w o g) : instObj c d ≠ o := by
  obtain ⟨tg, m, T, V, rfl⟩ := h
  intro e
  have := congrArg Obj.cls e
  cases this
theorem offU3 {a b : Addr × Obj} {x I : Addr} {o o' : Obj} {r : Led} (h : ∀ p ∈ a :: b :: (x, o) :: r, p.1 ≠ I) : ∀ p ∈ a :: b :: (x, o') :: r, p.1 ≠ I :=
  List.forall_mem_cons.mpr ⟨h _ (.head _), List.forall_mem_cons.mpr ⟨h _ (.tail _ (.head _)), List.forall_mem_cons.mpr ⟨h (x, o) (.tail _ (.tail _ (.head _))), fun p hp => h p (.tail _ (.tail _ (.tail _ hp)))⟩⟩⟩
theorem offU5 {a b c d : Addr × Obj} {x I : Addr} {o o' : Obj} {r : Led} (h : ∀ p ∈ a :: b :: c :: d :: (x, o) :: r, p.1 ≠ I) : ∀ p ∈ a :: b :: c :: d :: (x, o') :: r, p.1 ≠ I :=
  List.forall_mem_cons.mpr ⟨h _ (.head _), List.forall_mem_cons.mpr ⟨h _ (.tail _ (.head _)), offU3 fun p hp => h p (.tail _ (.tail _ hp))⟩⟩
theorem offU7 {a b c d e f : Addr × Obj} {x I : Addr} {o o' : Obj} {r : Led} (h : ∀ p ∈ a :: b :: c :: d :: e :: f :: (x, o) :: r, p.1 ≠ I) : ∀ p ∈ a :: b :: c :: d :: e :: f :: (x, o') :: r, p.1 ≠ I :=
  List.forall_mem_cons.mpr ⟨h _ (.head _), List.forall_mem_cons.mpr ⟨h _ (.tail _ (.head _)), offU5 fun p hp => h p (.tail _ (.tail _ hp))⟩⟩
section
variable {prog : Program} {w : World} {A : Around} {E : Value → Shared → Prop} {s : Shared} {h₀ : Heap} {L : Addr} {m : Str → Option Value} {news : Led}
theorem rng_in {a b : Int} {t u : Tok} {Q : Value → Shared → Prop} (F : Fr h₀ L s.heap m) (N : News h₀ L s.heap news)
    (h : ∀ d h' tk t₁ u₁ v₁, Fr h₀ L h' m → News h₀ L h' ((d, rngO a b t₁ u₁ v₁) :: news) → (∀ p ∈ news, p.1 < d) → Q (.ref d) { s with heap := h', toks := tk }) :
    wpAny (model prog w) A (call (.type "range") [.int a t, .int b u]) Q E s :=
  call_range_2 (h _ _ _ _ _ _ (F.push _) (News.push F N _) fun p hp => Heap.lt_size (N p hp).1)
end
section
local macro_rules | `(tactic| walk_at "ITD") => `(tactic| ((try simp only [decide_eq_true_eq, decide_eq_false_iff_not, Bool.and_eq_true, Bool.not_eq_true', Bool.not_eq_false', Bool.not_eq_true, Bool.not_eq_eq_eq_not]); omega))
local macro_rules | `(tactic| walk_at "ite") => `(tactic| (k_here; first | (refine ite_pos (by with_reducible assumption) ?_) | (refine ite_neg (by with_reducible assumption) ?_) | (refine ite_isFalse (by with_reducible assumption) ?_) | (refine ite_pos (by walk_at "ITD") ?_) | (refine ite_neg (by walk_at "ITD") ?_)))
local macro_rules | `(tactic| walk_at "qk") => `(tactic| (refine by_q (by assumption) ?_; (try dsimp only)))
local macro_rules | `(tactic| walk_at "pyIter ref") => `(tactic| walk_at "ITB")
local macro_rules | `(tactic| walk_at "eval ListComp") => `(tactic| walk_at "LC2")
local macro_rules | `(tactic| walk_at "CompSrc") => `(tactic| walk_at "CSRC")
local macro_rules | `(tactic| walk_at "exec Assign cons ListComp") => `(tactic| walk_at "HOLD")
local macro_rules | `(tactic| walk_at "call type:enumerate") => `(tactic| walk_at "HOLD")
local macro_rules | `(tactic| walk_at "CompSrc") => `(tactic| ((with_reducible show LCg.CompSrc _ _ _ _ _ _ _ (Expr.Tuple _ _ _) _ _ _ _ _ _); refine blk ?_))
local macro_rules | `(tactic| walk_at "CompEnd") => `(tactic| ((with_reducible show LCg.CompEnd _ _ _ _ _ _ _ _ _ _ _ _ (Value.ref _) _); refine blk ?_))
local macro_rules | `(tactic| walk_at "call type:tuple") => `(tactic| walk_at "HOLD")
local macro_rules | `(tactic| walk_at "newTuple") => `(tactic| walk_at "HOLD")
local macro_rules | `(tactic| walk_at "newList") => `(tactic| walk_at "HOLD")
local macro_rules | `(tactic| walk_at "call builtin:list.append") => `(tactic| walk_at "HOLD")
local macro_rules | `(tactic| walk_at "call type:dict") => `(tactic| walk_at "HOLD")
local macro_rules | `(tactic| walk_at "eval Dict") => `(tactic| walk_at "HOLD")
local macro_rules | `(tactic| walk_at "call ref") => `(tactic| walk_at "HOLD")
local macro_rules | `(tactic| walk_at "call type:range") => `(tactic| walk_at "HOLD")
set_option maxHeartbeats 12000000 in
noncomputable def lawT.Z : (E1 : PySem.World → PySem.Shared → PySem.Shared → (PySem.Str → Option PySem.Value) → (PySem.Str → Option PySem.Value) → PySem.Addr → PySem.Obj → PySem.Value → PySem.Value → PySem.Value → PySem.Addr → PySem.Obj → PySem.Addr → PySem.Addr → (List Int) → (List PySem.Addr) → (List PySem.Addr) → PySem.Addr → (List PySem.Value) → (List PySem.Addr) → PySem.Heap → (PySem.Flow → PySem.Shared → Prop) → (PySem.Value → PySem.Shared → Prop)) ×' (P1 : PySem.World → PySem.Shared → PySem.Shared → (PySem.Str → Option PySem.Value) → (PySem.Str → Option PySem.Value) → PySem.Addr → PySem.Obj → PySem.Value → PySem.Value → PySem.Value → PySem.Addr → PySem.Obj → PySem.Addr → PySem.Addr → (List Int) → (List PySem.Addr) → (List PySem.Addr) → PySem.Addr → (List PySem.Value) → (List PySem.Addr) → PySem.Heap → (PySem.Flow → PySem.Shared → Prop) → Prop) ×' (Ein E1 → (∀ x0 x1 x2 x3 x4 x5 x6 x7 x8 x9 x10 x11 x12 x13 x14 x15 x16 x17 x18 x19 x20 x21, P1 x0 x1 x2 x3 x4 x5 x6 x7 x8 x9 x10 x11 x12 x13 x14 x15 x16 x17 x18 x19 x20 x21) → (PySem.Challenge.rw_pf0148_01.Holds)) := by
  apply PSigma.mk; apply PSigma.mk
  focus
    intro HcutE Hcut1
    refine hd (by rfl) (by rfl) (by rfl) ?_
    have hfill : (PySem.Challenge.rw_pf0148_01, hd.heap_39) = (PySem.Challenge.rw_pf0148_01, hd.heap_39) := rfl
    revert hfill
    k_fill
    intro hfill; clear hfill
    intro w s₀ s₁ mg mb G Y fa o pm cd doc dV kV ho hd hcd hD hmg hg args vals as hpre hlay hrd hwl hlo
    have KX := kIn_of Y
    have X := (Ground.X G).1
    have V := (Ground.X G).2
    have GL := glob_more (Ground.glob G (by decide +kernel) (by decide +kernel)) V
    refine Ground.open G ?_
    intro T B D TE TW
    try (refine guard_noD D (by decide +kernel) ?_; clear D)
    obtain ⟨_, _, M⟩ := bmod_of_top T
    have TA := at_of_top T
    try (obtain ⟨_, _, he, B0⟩ := based_of_top T rfl hmg ho hd; have he' : cd = _ := he; subst he'; clear he)
    clear hmg
    wrow_args hpre hlay hrd hwl hlo
    all_goals (
      first | refine callC_kw (enter_call ?_) | refine enter_call ?_ | refine callC_kw (enter_callW ?_) | refine enter_callW ?_ | w_how
      w_top on
      try refine codeAny_mono ?_ (fun _ _ g => GoodW.toG g)
      have K0 := below_caller (Top.heap T)
      w_call any ho hd hcd hD T F
      clear hd TA
      k_drop
      skip)
    rename World => wW
    refine cut_fold fun qk hqk => ?_
    (walk_at "CUT"; intro x0 x1 x2 x3 x4 x5 x6 x7 x8 x9 x10 x11 x12 x13 x14 x15 x16 x17 x18 x19 x20 x21 HcutE Hcut1; intros; refine unE (ein_val HcutE x0 x1 x2 x3 x4 x5 x6 x7 x8 x9 x10 x11 x12 x13 x14 x15 x16 x17 x18 x19 x20 x21) rfl ?_; (repeat (rename (_ : Prop) => X; revert X)); exact fun HcutE Hcut1 => Hcut1 x0 x1 x2 x3 x4 x5 x6 x7 x8 x9 x10 x11 x12 x13 x14 x15 x16 x17 x18 x19 x20 x21)
namespace L0
noncomputable def zu : PySem.World × PySem.Shared × PySem.Shared × (PySem.Str → Option PySem.Value) × (PySem.Str → Option PySem.Value) × PySem.Addr × PySem.Obj × PySem.Value × PySem.Value × PySem.Value × PySem.Addr × PySem.Obj × PySem.Addr × PySem.Addr × (List Int) × (List PySem.Addr) × (List PySem.Addr) × PySem.Addr × (List PySem.Value) × (List PySem.Addr) × PySem.Heap × (PySem.Flow → PySem.Shared → Prop) := eps (dW, {}, {}, (fun _ => none), (fun _ => none), 0, { cls := .none, data := .fields #[] }, .none, .none, .none, 0, { cls := .none, data := .fields #[] }, 0, 0, [], [], [], 0, [], [], {}, (fun _ _ => True)) fun t => Pf.lawT.Z.2.1 t.1 t.2.1 t.2.2.1 t.2.2.2.1 t.2.2.2.2.1 t.2.2.2.2.2.1 t.2.2.2.2.2.2.1 t.2.2.2.2.2.2.2.1 t.2.2.2.2.2.2.2.2.1 t.2.2.2.2.2.2.2.2.2.1 t.2.2.2.2.2.2.2.2.2.2.1 t.2.2.2.2.2.2.2.2.2.2.2.1 t.2.2.2.2.2.2.2.2.2.2.2.2.1 t.2.2.2.2.2.2.2.2.2.2.2.2.2.1 t.2.2.2.2.2.2.2.2.2.2.2.2.2.2.1 t.2.2.2.2.2.2.2.2.2.2.2.2.2.2.2.1 t.2.2.2.2.2.2.2.2.2.2.2.2.2.2.2.2.1 t.2.2.2.2.2.2.2.2.2.2.2.2.2.2.2.2.2.1 t.2.2.2.2.2.2.2.2.2.2.2.2.2.2.2.2.2.2.1 t.2.2.2.2.2.2.2.2.2.2.2.2.2.2.2.2.2.2.2.1 t.2.2.2.2.2.2.2.2.2.2.2.2.2.2.2.2.2.2.2.2.1 t.2.2.2.2.2.2.2.2.2.2.2.2.2.2.2.2.2.2.2.2.2
@[irreducible] noncomputable def wW : PySem.World := zu.1
@[irreducible] noncomputable def s₀ : PySem.Shared := zu.2.1
@[irreducible] noncomputable def s₁ : PySem.Shared := zu.2.2.1
@[irreducible] noncomputable def mg : PySem.Str → Option PySem.Value := zu.2.2.2.1
@[irreducible] noncomputable def mb : PySem.Str → Option PySem.Value := zu.2.2.2.2.1
@[irreducible] noncomputable def fa : PySem.Addr := zu.2.2.2.2.2.1
@[irreducible] noncomputable def o : PySem.Obj := zu.2.2.2.2.2.2.1
@[irreducible] noncomputable def pm : PySem.Value := zu.2.2.2.2.2.2.2.1
@[irreducible] noncomputable def doc : PySem.Value := zu.2.2.2.2.2.2.2.2.1
@[irreducible] noncomputable def kV : PySem.Value := zu.2.2.2.2.2.2.2.2.2.1
@[irreducible] noncomputable def vL0_10 : PySem.Addr := zu.2.2.2.2.2.2.2.2.2.2.1
@[irreducible] noncomputable def vL0_11 : PySem.Obj := zu.2.2.2.2.2.2.2.2.2.2.2.1
@[irreducible] noncomputable def vL0_12 : PySem.Addr := zu.2.2.2.2.2.2.2.2.2.2.2.2.1
@[irreducible] noncomputable def vL0_13 : PySem.Addr := zu.2.2.2.2.2.2.2.2.2.2.2.2.2.1
@[irreducible] noncomputable def vL0_14 : List Int := zu.2.2.2.2.2.2.2.2.2.2.2.2.2.2.1
@[irreducible] noncomputable def vL0_15 : List PySem.Addr := zu.2.2.2.2.2.2.2.2.2.2.2.2.2.2.2.1
@[irreducible] noncomputable def vL0_16 : List PySem.Addr := zu.2.2.2.2.2.2.2.2.2.2.2.2.2.2.2.2.1
@[irreducible] noncomputable def vL0_17 : PySem.Addr := zu.2.2.2.2.2.2.2.2.2.2.2.2.2.2.2.2.2.1
@[irreducible] noncomputable def vL0_18 : List PySem.Value := zu.2.2.2.2.2.2.2.2.2.2.2.2.2.2.2.2.2.2.1
@[irreducible] noncomputable def vL0_19 : List PySem.Addr := zu.2.2.2.2.2.2.2.2.2.2.2.2.2.2.2.2.2.2.2.1
@[irreducible] noncomputable def vL0_20 : PySem.Heap := zu.2.2.2.2.2.2.2.2.2.2.2.2.2.2.2.2.2.2.2.2.1
@[irreducible] noncomputable def qk : PySem.Flow → PySem.Shared → Prop := zu.2.2.2.2.2.2.2.2.2.2.2.2.2.2.2.2.2.2.2.2.2
theorem zk : Pf.lawT.Z.2.1 wW s₀ s₁ mg mb fa o pm doc kV vL0_10 vL0_11 vL0_12 vL0_13 vL0_14 vL0_15 vL0_16 vL0_17 vL0_18 vL0_19 vL0_20 qk → ∀ x0 x1 x2 x3 x4 x5 x6 x7 x8 x9 x10 x11 x12 x13 x14 x15 x16 x17 x18 x19 x20 x21, Pf.lawT.Z.2.1 x0 x1 x2 x3 x4 x5 x6 x7 x8 x9 x10 x11 x12 x13 x14 x15 x16 x17 x18 x19 x20 x21 := by
  delta wW s₀ s₁ mg mb fa o pm doc kV vL0_10 vL0_11 vL0_12 vL0_13 vL0_14 vL0_15 vL0_16 vL0_17 vL0_18 vL0_19 vL0_20 qk
  exact fun h x0 x1 x2 x3 x4 x5 x6 x7 x8 x9 x10 x11 x12 x13 x14 x15 x16 x17 x18 x19 x20 x21 => all_eps (P := fun t => Pf.lawT.Z.2.1 t.1 t.2.1 t.2.2.1 t.2.2.2.1 t.2.2.2.2.1 t.2.2.2.2.2.1 t.2.2.2.2.2.2.1 t.2.2.2.2.2.2.2.1 t.2.2.2.2.2.2.2.2.1 t.2.2.2.2.2.2.2.2.2.1 t.2.2.2.2.2.2.2.2.2.2.1 t.2.2.2.2.2.2.2.2.2.2.2.1 t.2.2.2.2.2.2.2.2.2.2.2.2.1 t.2.2.2.2.2.2.2.2.2.2.2.2.2.1 t.2.2.2.2.2.2.2.2.2.2.2.2.2.2.1 t.2.2.2.2.2.2.2.2.2.2.2.2.2.2.2.1 t.2.2.2.2.2.2.2.2.2.2.2.2.2.2.2.2.1 t.2.2.2.2.2.2.2.2.2.2.2.2.2.2.2.2.2.1 t.2.2.2.2.2.2.2.2.2.2.2.2.2.2.2.2.2.2.1 t.2.2.2.2.2.2.2.2.2.2.2.2.2.2.2.2.2.2.2.1 t.2.2.2.2.2.2.2.2.2.2.2.2.2.2.2.2.2.2.2.2.1 t.2.2.2.2.2.2.2.2.2.2.2.2.2.2.2.2.2.2.2.2.2) h (x0, x1, x2, x3, x4, x5, x6, x7, x8, x9, x10, x11, x12, x13, x14, x15, x16, x17, x18, x19, x20, x21)
noncomputable def ek : (PySem.Value → PySem.Shared → Prop) := lawT.Z.1 wW s₀ s₁ mg mb fa o pm doc kV vL0_10 vL0_11 vL0_12 vL0_13 vL0_14 vL0_15 vL0_16 vL0_17 vL0_18 vL0_19 vL0_20 qk
set_option maxHeartbeats 12000000 in
noncomputable def zb.Z : (P1 : PySem.Addr → (List PySem.Value) → PySem.Heap → PySem.Heap → (List PySem.Value) → PySem.Addr → PySem.Heap → Nat → PySem.Addr → PySem.Heap → PySem.Heap → PySem.Addr → PySem.Heap → PySem.Heap → PySem.Heap → Nat → PySem.Tok → PySem.Tok → PySem.Tok → (List Int) → Nat → PySem.Tok → (PySem.Str → Option PySem.Value) → PySem.Heap → Nat → PySem.Addr → PySem.Obj → (List (PySem.Addr × PySem.Obj)) → Nat → Nat → Nat → PySem.Tok → Prop) ×' (P2 : PySem.Addr → (List PySem.Value) → PySem.Heap → PySem.Heap → (List PySem.Value) → PySem.Addr → PySem.Heap → Nat → PySem.Addr → PySem.Heap → PySem.Heap → PySem.Addr → PySem.Heap → PySem.Heap → PySem.Heap → Nat → PySem.Tok → PySem.Tok → PySem.Tok → (List Int) → Nat → PySem.Tok → (PySem.Str → Option PySem.Value) → PySem.Heap → Nat → PySem.Addr → PySem.Obj → (List (PySem.Addr × PySem.Obj)) → Nat → Nat → Nat → PySem.Tok → PySem.Addr → (List Int) → Prop) ×' (P3 : PySem.Addr → (List PySem.Value) → PySem.Heap → PySem.Heap → (List PySem.Value) → PySem.Addr → PySem.Heap → Nat → PySem.Addr → PySem.Heap → PySem.Heap → PySem.Addr → PySem.Heap → PySem.Heap → PySem.Heap → Nat → PySem.Tok → PySem.Tok → PySem.Tok → (List Int) → Nat → PySem.Tok → (PySem.Str → Option PySem.Value) → PySem.Heap → Nat → PySem.Addr → PySem.Obj → (List (PySem.Addr × PySem.Obj)) → Nat → Nat → Nat → PySem.Tok → PySem.Addr → (List Int) → PySem.Addr → (List Int) → Prop) ×' (P4 : PySem.Addr → (List PySem.Value) → PySem.Heap → PySem.Heap → (List PySem.Value) → PySem.Addr → PySem.Heap → Nat → PySem.Addr → PySem.Heap → PySem.Heap → PySem.Addr → PySem.Heap → PySem.Heap → PySem.Heap → Nat → PySem.Tok → PySem.Tok → PySem.Tok → (List Int) → (PySem.Str → Option PySem.Value) → PySem.Heap → Nat → (List (PySem.Addr × PySem.Obj)) → Nat → Nat → Nat → PySem.Tok → PySem.Addr → (List Int) → PySem.Addr → (List Int) → PySem.Addr → (List Int) → Prop) ×' ((∀ x0 x1 x2 x3 x4 x5 x6 x7 x8 x9 x10 x11 x12 x13 x14 x15 x16 x17 x18 x19 x20 x21 x22 x23 x24 x25 x26 x27 x28 x29 x30 x31, P1 x0 x1 x2 x3 x4 x5 x6 x7 x8 x9 x10 x11 x12 x13 x14 x15 x16 x17 x18 x19 x20 x21 x22 x23 x24 x25 x26 x27 x28 x29 x30 x31) → (∀ x0 x1 x2 x3 x4 x5 x6 x7 x8 x9 x10 x11 x12 x13 x14 x15 x16 x17 x18 x19 x20 x21 x22 x23 x24 x25 x26 x27 x28 x29 x30 x31 x32 x33, P2 x0 x1 x2 x3 x4 x5 x6 x7 x8 x9 x10 x11 x12 x13 x14 x15 x16 x17 x18 x19 x20 x21 x22 x23 x24 x25 x26 x27 x28 x29 x30 x31 x32 x33) → (∀ x0 x1 x2 x3 x4 x5 x6 x7 x8 x9 x10 x11 x12 x13 x14 x15 x16 x17 x18 x19 x20 x21 x22 x23 x24 x25 x26 x27 x28 x29 x30 x31 x32 x33 x34 x35, P3 x0 x1 x2 x3 x4 x5 x6 x7 x8 x9 x10 x11 x12 x13 x14 x15 x16 x17 x18 x19 x20 x21 x22 x23 x24 x25 x26 x27 x28 x29 x30 x31 x32 x33 x34 x35) → (∀ x0 x1 x2 x3 x4 x5 x6 x7 x8 x9 x10 x11 x12 x13 x14 x15 x16 x17 x18 x19 x20 x21 x22 x23 x24 x25 x26 x27 x28 x29 x30 x31 x32 x33, P4 x0 x1 x2 x3 x4 x5 x6 x7 x8 x9 x10 x11 x12 x13 x14 x15 x16 x17 x18 x19 x20 x21 x22 x23 x24 x25 x26 x27 x28 x29 x30 x31 x32 x33) → (Pf.lawT.Z.2.1 wW s₀ s₁ mg mb fa o pm doc kV vL0_10 vL0_11 vL0_12 vL0_13 vL0_14 vL0_15 vL0_16 vL0_17 vL0_18 vL0_19 vL0_20 qk)) := by
  apply PSigma.mk; apply PSigma.mk; apply PSigma.mk; apply PSigma.mk
  focus
    intro Hcut1 Hcut2 Hcut3 Hcut4
    intro G Y ho hg KX X V GL T B TE TW M hcd _ _ _ _ _ _ _ _ _ _ _ _ _ K0 hD F _ hqk
    refine unE ek rfl (e := ek) ?_
    have hfill : (PySem.Challenge.rw_pf0148_01, hd.heap_39) = (PySem.Challenge.rw_pf0148_01, hd.heap_39) := rfl
    revert hfill
    k_fill
    intro hfill; clear hfill
    (k_steps; (all_goals (try ((with_reducible refine unheld ?_); (first | fin_once hold walk1 | fail); (try k_steps)))); (all_goals (try ((with_reducible refine unheld ?_); (first | fin_once hold walk1 | fail); (try k_steps)))); (all_goals (try ((with_reducible refine unheld ?_); (first | fin_once hold walk1 | fail); (try k_steps)))))
    unfold Blocked
    rename IntsAre _ _ => hI9
    obtain ⟨ns9, hI10, hL10⟩ : ∃ ns : List Int, IntsAre _ ns ∧ ns.length ≤ 24 := ⟨_, hI9, by simp only [List.length_map, List.length_take]; omega⟩
    clear hI9
    refine' iter_rng 3 (JL _ _ _ _ _) ?zh ?zr ?zs ?zz ?zF ?zN ?zj ?zt ?zd
    case zF => k_asm
    case zN => k_asm
    case zh => rfl
    case zr => assumption
    case zs => decide
    case zz => decide
    case zj =>
      refine JL.start ?za ?zb ?zc
      case za => k_all
      case zb => k_all
      case zc =>
        (try dsimp only)
        first | exact Nat.ne_of_gt (by omega) | exact Nat.ne_of_lt (by omega) | trace_state
    --ZT
    case zt =>
      intro i k t m₁ news₁ h tk I oI hi hk ho hJ F₁ N₁
      obtain ⟨hm, hJ⟩ := hJ
      rw [hm.eq] at F₁
      match i, hi with
      | 0, _ =>
        obtain ⟨rest, c, c2, c3, t', rfl, j1, j2, j3, j4⟩ := hJ
        subst hk
        (walk_at "CUT"; exact fun x0 x1 x2 x3 x4 x5 x6 x7 x8 x9 x10 x11 x12 x13 x14 x15 x16 x17 x18 x19 x20 x21 x22 x23 x24 x25 x26 x27 x28 x29 x30 x31 Hcut1 Hcut2 Hcut3 Hcut4 => Hcut1 x0 x1 x2 x3 x4 x5 x6 x7 x8 x9 x10 x11 x12 x13 x14 x15 x16 x17 x18 x19 x20 x21 x22 x23 x24 x25 x26 x27 x28 x29 x30 x31)
      | 1, _ =>
        obtain ⟨rest, c, c2, c3, t', a0, r0, rfl, j1, j2, j3, j4, j5⟩ := hJ
        subst hk
        (walk_at "CUT"; exact fun x0 x1 x2 x3 x4 x5 x6 x7 x8 x9 x10 x11 x12 x13 x14 x15 x16 x17 x18 x19 x20 x21 x22 x23 x24 x25 x26 x27 x28 x29 x30 x31 x32 x33 Hcut1 Hcut2 Hcut3 Hcut4 => Hcut2 x0 x1 x2 x3 x4 x5 x6 x7 x8 x9 x10 x11 x12 x13 x14 x15 x16 x17 x18 x19 x20 x21 x22 x23 x24 x25 x26 x27 x28 x29 x30 x31 x32 x33)
      | 2, _ =>
        obtain ⟨rest, c, c2, c3, t', a0, r0, a1, r1, rfl, j1, j2, j3, j4, j5, j6⟩ := hJ
        subst hk
        (walk_at "CUT"; exact fun x0 x1 x2 x3 x4 x5 x6 x7 x8 x9 x10 x11 x12 x13 x14 x15 x16 x17 x18 x19 x20 x21 x22 x23 x24 x25 x26 x27 x28 x29 x30 x31 x32 x33 x34 x35 Hcut1 Hcut2 Hcut3 Hcut4 => Hcut3 x0 x1 x2 x3 x4 x5 x6 x7 x8 x9 x10 x11 x12 x13 x14 x15 x16 x17 x18 x19 x20 x21 x22 x23 x24 x25 x26 x27 x28 x29 x30 x31 x32 x33 x34 x35)
    --ZD
    case zd =>
      intro m₁ news₁ h tk hJ F₁ N₁
      obtain ⟨hm, rest, c, c2, c3, t', a0, r0, a1, r1, a2, r2, rfl, j1, j2, j3, j4, j5, j6, j7⟩ := hJ
      rw [hm.eq] at F₁
      dsimp only
      (walk_at "CUT"; exact fun x0 x1 x2 x3 x4 x5 x6 x7 x8 x9 x10 x11 x12 x13 x14 x15 x16 x17 x18 x19 x20 x21 x22 x23 x24 x25 x26 x27 x28 x29 x30 x31 x32 x33 Hcut1 Hcut2 Hcut3 Hcut4 => Hcut4 x0 x1 x2 x3 x4 x5 x6 x7 x8 x9 x10 x11 x12 x13 x14 x15 x16 x17 x18 x19 x20 x21 x22 x23 x24 x25 x26 x27 x28 x29 x30 x31 x32 x33)
namespace T0
noncomputable def zu : PySem.Addr × (List PySem.Value) × PySem.Heap × PySem.Heap × (List PySem.Value) × PySem.Addr × PySem.Heap × Nat × PySem.Addr × PySem.Heap × PySem.Heap × PySem.Addr × PySem.Heap × PySem.Heap × PySem.Heap × Nat × PySem.Tok × PySem.Tok × PySem.Tok × (List Int) × Nat × PySem.Tok × (PySem.Str → Option PySem.Value) × PySem.Heap × Nat × PySem.Addr × PySem.Obj × (List (PySem.Addr × PySem.Obj)) × Nat × Nat × Nat × PySem.Tok := eps (0, [], {}, {}, [], 0, {}, 0, 0, {}, {}, 0, {}, {}, {}, 0, 0, 0, 0, [], 0, 0, (fun _ => none), {}, 0, 0, { cls := .none, data := .fields #[] }, [], 0, 0, 0, 0) fun t => Pf.L0.zb.Z.1 t.1 t.2.1 t.2.2.1 t.2.2.2.1 t.2.2.2.2.1 t.2.2.2.2.2.1 t.2.2.2.2.2.2.1 t.2.2.2.2.2.2.2.1 t.2.2.2.2.2.2.2.2.1 t.2.2.2.2.2.2.2.2.2.1 t.2.2.2.2.2.2.2.2.2.2.1 t.2.2.2.2.2.2.2.2.2.2.2.1 t.2.2.2.2.2.2.2.2.2.2.2.2.1 t.2.2.2.2.2.2.2.2.2.2.2.2.2.1 t.2.2.2.2.2.2.2.2.2.2.2.2.2.2.1 t.2.2.2.2.2.2.2.2.2.2.2.2.2.2.2.1 t.2.2.2.2.2.2.2.2.2.2.2.2.2.2.2.2.1 t.2.2.2.2.2.2.2.2.2.2.2.2.2.2.2.2.2.1 t.2.2.2.2.2.2.2.2.2.2.2.2.2.2.2.2.2.2.1 t.2.2.2.2.2.2.2.2.2.2.2.2.2.2.2.2.2.2.2.1 t.2.2.2.2.2.2.2.2.2.2.2.2.2.2.2.2.2.2.2.2.1 t.2.2.2.2.2.2.2.2.2.2.2.2.2.2.2.2.2.2.2.2.2.1 t.2.2.2.2.2.2.2.2.2.2.2.2.2.2.2.2.2.2.2.2.2.2.1 t.2.2.2.2.2.2.2.2.2.2.2.2.2.2.2.2.2.2.2.2.2.2.2.1 t.2.2.2.2.2.2.2.2.2.2.2.2.2.2.2.2.2.2.2.2.2.2.2.2.1 t.2.2.2.2.2.2.2.2.2.2.2.2.2.2.2.2.2.2.2.2.2.2.2.2.2.1 t.2.2.2.2.2.2.2.2.2.2.2.2.2.2.2.2.2.2.2.2.2.2.2.2.2.2.1 t.2.2.2.2.2.2.2.2.2.2.2.2.2.2.2.2.2.2.2.2.2.2.2.2.2.2.2.1 t.2.2.2.2.2.2.2.2.2.2.2.2.2.2.2.2.2.2.2.2.2.2.2.2.2.2.2.2.1 t.2.2.2.2.2.2.2.2.2.2.2.2.2.2.2.2.2.2.2.2.2.2.2.2.2.2.2.2.2.1 t.2.2.2.2.2.2.2.2.2.2.2.2.2.2.2.2.2.2.2.2.2.2.2.2.2.2.2.2.2.2.1 t.2.2.2.2.2.2.2.2.2.2.2.2.2.2.2.2.2.2.2.2.2.2.2.2.2.2.2.2.2.2.2
@[irreducible] noncomputable def vT0_0 : PySem.Addr := zu.1
@[irreducible] noncomputable def vT0_1 : List PySem.Value := zu.2.1
@[irreducible] noncomputable def vT0_2 : PySem.Heap := zu.2.2.1
@[irreducible] noncomputable def vT0_3 : PySem.Heap := zu.2.2.2.1
@[irreducible] noncomputable def ys : List PySem.Value := zu.2.2.2.2.1
@[irreducible] noncomputable def vT0_5 : PySem.Addr := zu.2.2.2.2.2.1
@[irreducible] noncomputable def vT0_6 : PySem.Heap := zu.2.2.2.2.2.2.1
@[irreducible] noncomputable def vT0_7 : Nat := zu.2.2.2.2.2.2.2.1
@[irreducible] noncomputable def vT0_8 : PySem.Addr := zu.2.2.2.2.2.2.2.2.1
@[irreducible] noncomputable def vT0_9 : PySem.Heap := zu.2.2.2.2.2.2.2.2.2.1
@[irreducible] noncomputable def vT0_10 : PySem.Heap := zu.2.2.2.2.2.2.2.2.2.2.1
@[irreducible] noncomputable def vT0_11 : PySem.Addr := zu.2.2.2.2.2.2.2.2.2.2.2.1
@[irreducible] noncomputable def vT0_12 : PySem.Heap := zu.2.2.2.2.2.2.2.2.2.2.2.2.1
@[irreducible] noncomputable def vT0_13 : PySem.Heap := zu.2.2.2.2.2.2.2.2.2.2.2.2.2.1
@[irreducible] noncomputable def vT0_14 : PySem.Heap := zu.2.2.2.2.2.2.2.2.2.2.2.2.2.2.1
@[irreducible] noncomputable def vT0_15 : Nat := zu.2.2.2.2.2.2.2.2.2.2.2.2.2.2.2.1
@[irreducible] noncomputable def vT0_16 : PySem.Tok := zu.2.2.2.2.2.2.2.2.2.2.2.2.2.2.2.2.1
@[irreducible] noncomputable def vT0_17 : PySem.Tok := zu.2.2.2.2.2.2.2.2.2.2.2.2.2.2.2.2.2.1
@[irreducible] noncomputable def vT0_18 : PySem.Tok := zu.2.2.2.2.2.2.2.2.2.2.2.2.2.2.2.2.2.2.1
@[irreducible] noncomputable def ns9 : List Int := zu.2.2.2.2.2.2.2.2.2.2.2.2.2.2.2.2.2.2.2.1
@[irreducible] noncomputable def i : Nat := zu.2.2.2.2.2.2.2.2.2.2.2.2.2.2.2.2.2.2.2.2.1
@[irreducible] noncomputable def t : PySem.Tok := zu.2.2.2.2.2.2.2.2.2.2.2.2.2.2.2.2.2.2.2.2.2.1
@[irreducible] noncomputable def m₁ : PySem.Str → Option PySem.Value := zu.2.2.2.2.2.2.2.2.2.2.2.2.2.2.2.2.2.2.2.2.2.2.1
@[irreducible] noncomputable def h : PySem.Heap := zu.2.2.2.2.2.2.2.2.2.2.2.2.2.2.2.2.2.2.2.2.2.2.2.1
@[irreducible] noncomputable def tk : Nat := zu.2.2.2.2.2.2.2.2.2.2.2.2.2.2.2.2.2.2.2.2.2.2.2.2.1
@[irreducible] noncomputable def I : PySem.Addr := zu.2.2.2.2.2.2.2.2.2.2.2.2.2.2.2.2.2.2.2.2.2.2.2.2.2.1
@[irreducible] noncomputable def oI : PySem.Obj := zu.2.2.2.2.2.2.2.2.2.2.2.2.2.2.2.2.2.2.2.2.2.2.2.2.2.2.1
@[irreducible] noncomputable def rest : List (PySem.Addr × PySem.Obj) := zu.2.2.2.2.2.2.2.2.2.2.2.2.2.2.2.2.2.2.2.2.2.2.2.2.2.2.2.1
@[irreducible] noncomputable def c : Nat := zu.2.2.2.2.2.2.2.2.2.2.2.2.2.2.2.2.2.2.2.2.2.2.2.2.2.2.2.2.1
@[irreducible] noncomputable def c2 : Nat := zu.2.2.2.2.2.2.2.2.2.2.2.2.2.2.2.2.2.2.2.2.2.2.2.2.2.2.2.2.2.1
@[irreducible] noncomputable def c3 : Nat := zu.2.2.2.2.2.2.2.2.2.2.2.2.2.2.2.2.2.2.2.2.2.2.2.2.2.2.2.2.2.2.1
@[irreducible] noncomputable def t' : PySem.Tok := zu.2.2.2.2.2.2.2.2.2.2.2.2.2.2.2.2.2.2.2.2.2.2.2.2.2.2.2.2.2.2.2
theorem zk : Pf.L0.zb.Z.1 vT0_0 vT0_1 vT0_2 vT0_3 ys vT0_5 vT0_6 vT0_7 vT0_8 vT0_9 vT0_10 vT0_11 vT0_12 vT0_13 vT0_14 vT0_15 vT0_16 vT0_17 vT0_18 ns9 i t m₁ h tk I oI rest c c2 c3 t' → ∀ x0 x1 x2 x3 x4 x5 x6 x7 x8 x9 x10 x11 x12 x13 x14 x15 x16 x17 x18 x19 x20 x21 x22 x23 x24 x25 x26 x27 x28 x29 x30 x31, Pf.L0.zb.Z.1 x0 x1 x2 x3 x4 x5 x6 x7 x8 x9 x10 x11 x12 x13 x14 x15 x16 x17 x18 x19 x20 x21 x22 x23 x24 x25 x26 x27 x28 x29 x30 x31 := by
  delta vT0_0 vT0_1 vT0_2 vT0_3 ys vT0_5 vT0_6 vT0_7 vT0_8 vT0_9 vT0_10 vT0_11 vT0_12 vT0_13 vT0_14 vT0_15 vT0_16 vT0_17 vT0_18 ns9 i t m₁ h tk I oI rest c c2 c3 t'
  exact fun h x0 x1 x2 x3 x4 x5 x6 x7 x8 x9 x10 x11 x12 x13 x14 x15 x16 x17 x18 x19 x20 x21 x22 x23 x24 x25 x26 x27 x28 x29 x30 x31 => all_eps (P := fun t => Pf.L0.zb.Z.1 t.1 t.2.1 t.2.2.1 t.2.2.2.1 t.2.2.2.2.1 t.2.2.2.2.2.1 t.2.2.2.2.2.2.1 t.2.2.2.2.2.2.2.1 t.2.2.2.2.2.2.2.2.1 t.2.2.2.2.2.2.2.2.2.1 t.2.2.2.2.2.2.2.2.2.2.1 t.2.2.2.2.2.2.2.2.2.2.2.1 t.2.2.2.2.2.2.2.2.2.2.2.2.1 t.2.2.2.2.2.2.2.2.2.2.2.2.2.1 t.2.2.2.2.2.2.2.2.2.2.2.2.2.2.1 t.2.2.2.2.2.2.2.2.2.2.2.2.2.2.2.1 t.2.2.2.2.2.2.2.2.2.2.2.2.2.2.2.2.1 t.2.2.2.2.2.2.2.2.2.2.2.2.2.2.2.2.2.1 t.2.2.2.2.2.2.2.2.2.2.2.2.2.2.2.2.2.2.1 t.2.2.2.2.2.2.2.2.2.2.2.2.2.2.2.2.2.2.2.1 t.2.2.2.2.2.2.2.2.2.2.2.2.2.2.2.2.2.2.2.2.1 t.2.2.2.2.2.2.2.2.2.2.2.2.2.2.2.2.2.2.2.2.2.1 t.2.2.2.2.2.2.2.2.2.2.2.2.2.2.2.2.2.2.2.2.2.2.1 t.2.2.2.2.2.2.2.2.2.2.2.2.2.2.2.2.2.2.2.2.2.2.2.1 t.2.2.2.2.2.2.2.2.2.2.2.2.2.2.2.2.2.2.2.2.2.2.2.2.1 t.2.2.2.2.2.2.2.2.2.2.2.2.2.2.2.2.2.2.2.2.2.2.2.2.2.1 t.2.2.2.2.2.2.2.2.2.2.2.2.2.2.2.2.2.2.2.2.2.2.2.2.2.2.1 t.2.2.2.2.2.2.2.2.2.2.2.2.2.2.2.2.2.2.2.2.2.2.2.2.2.2.2.1 t.2.2.2.2.2.2.2.2.2.2.2.2.2.2.2.2.2.2.2.2.2.2.2.2.2.2.2.2.1 t.2.2.2.2.2.2.2.2.2.2.2.2.2.2.2.2.2.2.2.2.2.2.2.2.2.2.2.2.2.1 t.2.2.2.2.2.2.2.2.2.2.2.2.2.2.2.2.2.2.2.2.2.2.2.2.2.2.2.2.2.2.1 t.2.2.2.2.2.2.2.2.2.2.2.2.2.2.2.2.2.2.2.2.2.2.2.2.2.2.2.2.2.2.2) h (x0, x1, x2, x3, x4, x5, x6, x7, x8, x9, x10, x11, x12, x13, x14, x15, x16, x17, x18, x19, x20, x21, x22, x23, x24, x25, x26, x27, x28, x29, x30, x31)
set_option maxHeartbeats 12000000 in
theorem zb : Pf.L0.zb.Z.1 vT0_0 vT0_1 vT0_2 vT0_3 ys vT0_5 vT0_6 vT0_7 vT0_8 vT0_9 vT0_10 vT0_11 vT0_12 vT0_13 vT0_14 vT0_15 vT0_16 vT0_17 vT0_18 ns9 i t m₁ h tk I oI rest c c2 c3 t' := by
  intro G Y ho hg KX X V GL T B TE TW M hcd _ _ _ _ _ _ _ _ _ _ _ _ _ K0 hD hqk _ _ _ _ _ _ _ _ _ _ _ _ _ _ _ _ _ hI10 hL10 hi hm _ ho N₁ j1 j2 j3 j4 F₁
  have hfill : (PySem.Challenge.rw_pf0148_01, hd.heap_39) = (PySem.Challenge.rw_pf0148_01, hd.heap_39) := rfl
  revert hfill
  k_fill
  intro hfill; clear hfill
  (k_steps; (all_goals (try ((with_reducible refine unheld ?_); (first | fin_once hold walk1 | fail); (try k_steps)))); (all_goals (try ((with_reducible refine unheld ?_); (first | fin_once hold walk1 | fail); (try k_steps)))); (all_goals (try ((with_reducible refine unheld ?_); (first | (refine' con_use1 ?k1_369 ?k2_369 ?k3_369 ?k4_369 ?k5_369 ?kK_369 ?kd_369 ?ku_369 ?q1_369 (c_draw _ _ _ _ _ _ _ _ _ 0 _ _ _ _ _ _ ?n1_369 ?m1_369 ?a1_369 ?a2_369 ?l2_369 ?l3_369 ?l4_369) ?_; (case k1_369 => k_asm); (case k2_369 => k_asm); (case k3_369 => k_asm); (case k4_369 => k_asm); (case k5_369 => k_asm); (case kK_369 => first | exact rfl | assumption); (case q1_369 => (walk_at "PICK")); (case n1_369 => k_all); (case m1_369 => k_mem); (case a1_369 => assumption); (case a2_369 => assumption); (case l2_369 => omega); (case l3_369 => omega); (case l4_369 => omega); (case kd_369 => ktr_room); (case ku_369 => ktr_units); k_whole;  intro z9z t9z t8z y9z y8z h9z tk9z F9z N9z; (try dsimp only); (try k_fold)) | fin_once hold walk1 | fail); (try k_steps)))); (all_goals (try ((with_reducible refine unheld ?_); (first | fin_once hold walk1 | fail); (try k_steps)))); (all_goals (try ((with_reducible refine unheld ?_); (first | fin_once hold walk1 | fail); (try k_steps)))); (all_goals (try ((with_reducible refine unheld ?_); (first | (refine' con_use1 ?k1_370 ?k2_370 ?k3_370 ?k4_370 ?k5_370 ?kK_370 ?kd_370 ?ku_370 ?q1_370 (c_draw _ _ _ _ _ _ _ _ _ 0 _ _ _ _ _ _ ?n1_370 ?m1_370 ?a1_370 ?a2_370 ?l2_370 ?l3_370 ?l4_370) ?_; (case k1_370 => k_asm); (case k2_370 => k_asm); (case k3_370 => k_asm); (case k4_370 => k_asm); (case k5_370 => k_asm); (case kK_370 => first | exact rfl | assumption); (case q1_370 => (walk_at "PICK")); (case n1_370 => k_all); (case m1_370 => k_mem); (case a1_370 => assumption); (case a2_370 => assumption); (case l2_370 => omega); (case l3_370 => omega); (case l4_370 => omega); (case kd_370 => ktr_room); (case ku_370 => ktr_units); k_whole;  intro z9z t9z t8z y9z y8z h9z tk9z F9z N9z; (try dsimp only); (try k_fold)) | fin_once hold walk1 | fail); (try k_steps)))); (all_goals (try ((with_reducible refine unheld ?_); (first | (refine' con_use1 ?k1_371 ?k2_371 ?k3_371 ?k4_371 ?k5_371 ?kK_371 ?kd_371 ?ku_371 ?q1_371 (c_draw _ _ _ _ _ _ _ _ _ 0 _ _ _ _ _ _ ?n1_371 ?m1_371 ?a1_371 ?a2_371 ?l2_371 ?l3_371 ?l4_371) ?_; (case k1_371 => k_asm); (case k2_371 => k_asm); (case k3_371 => k_asm); (case k4_371 => k_asm); (case k5_371 => k_asm); (case kK_371 => first | exact rfl | assumption); (case q1_371 => (walk_at "PICK")); (case n1_371 => k_all); (case m1_371 => k_mem); (case a1_371 => assumption); (case a2_371 => assumption); (case l2_371 => omega); (case l3_371 => omega); (case l4_371 => omega); (case kd_371 => ktr_room); (case ku_371 => ktr_units); k_whole;  intro z9z t9z t8z y9z y8z h9z tk9z F9z N9z; (try dsimp only); (try k_fold)) | fin_once hold walk1 | fail); (try k_steps)))); (all_goals (try ((with_reducible refine unheld ?_); (first | fin_once hold walk1 | fail); (try k_steps)))))
  all_goals unfold Blocked
  all_goals
    refine' turn_end ?ua ?ub ?uc ?ud ⟨?um, JA.one ?v1 ?v2 ?v3 ?v4 ?v5 ?v6 ?v7 ?v8 ?v9⟩
    case ua => k_asm
    case ub => k_asm
    case v1 => assumption
    case v2 => assumption
    case v3 => assumption
    case v4 => assumption
    case v7 => assumption
    case uc => walk_at "SUB"
    case v5 => k_ne
    case v6 => k_ne
    case v9 => exact rep_len (by omega) (by omega)
    case v8 => first | exact rep_row (by decide) | exact rep_row' (by decide)
    case ud => k_all
    case um => exact fun z h1 h2 h3 => by simp only [if_neg h1, if_neg h2, if_neg h3]
end T0
namespace T1
noncomputable def zu : PySem.Addr × (List PySem.Value) × PySem.Heap × PySem.Heap × (List PySem.Value) × PySem.Addr × PySem.Heap × Nat × PySem.Addr × PySem.Heap × PySem.Heap × PySem.Addr × PySem.Heap × PySem.Heap × PySem.Heap × Nat × PySem.Tok × PySem.Tok × PySem.Tok × (List Int) × Nat × PySem.Tok × (PySem.Str → Option PySem.Value) × PySem.Heap × Nat × PySem.Addr × PySem.Obj × (List (PySem.Addr × PySem.Obj)) × Nat × Nat × Nat × PySem.Tok × PySem.Addr × (List Int) := eps (0, [], {}, {}, [], 0, {}, 0, 0, {}, {}, 0, {}, {}, {}, 0, 0, 0, 0, [], 0, 0, (fun _ => none), {}, 0, 0, { cls := .none, data := .fields #[] }, [], 0, 0, 0, 0, 0, []) fun t => Pf.L0.zb.Z.2.1 t.1 t.2.1 t.2.2.1 t.2.2.2.1 t.2.2.2.2.1 t.2.2.2.2.2.1 t.2.2.2.2.2.2.1 t.2.2.2.2.2.2.2.1 t.2.2.2.2.2.2.2.2.1 t.2.2.2.2.2.2.2.2.2.1 t.2.2.2.2.2.2.2.2.2.2.1 t.2.2.2.2.2.2.2.2.2.2.2.1 t.2.2.2.2.2.2.2.2.2.2.2.2.1 t.2.2.2.2.2.2.2.2.2.2.2.2.2.1 t.2.2.2.2.2.2.2.2.2.2.2.2.2.2.1 t.2.2.2.2.2.2.2.2.2.2.2.2.2.2.2.1 t.2.2.2.2.2.2.2.2.2.2.2.2.2.2.2.2.1 t.2.2.2.2.2.2.2.2.2.2.2.2.2.2.2.2.2.1 t.2.2.2.2.2.2.2.2.2.2.2.2.2.2.2.2.2.2.1 t.2.2.2.2.2.2.2.2.2.2.2.2.2.2.2.2.2.2.2.1 t.2.2.2.2.2.2.2.2.2.2.2.2.2.2.2.2.2.2.2.2.1 t.2.2.2.2.2.2.2.2.2.2.2.2.2.2.2.2.2.2.2.2.2.1 t.2.2.2.2.2.2.2.2.2.2.2.2.2.2.2.2.2.2.2.2.2.2.1 t.2.2.2.2.2.2.2.2.2.2.2.2.2.2.2.2.2.2.2.2.2.2.2.1 t.2.2.2.2.2.2.2.2.2.2.2.2.2.2.2.2.2.2.2.2.2.2.2.2.1 t.2.2.2.2.2.2.2.2.2.2.2.2.2.2.2.2.2.2.2.2.2.2.2.2.2.1 t.2.2.2.2.2.2.2.2.2.2.2.2.2.2.2.2.2.2.2.2.2.2.2.2.2.2.1 t.2.2.2.2.2.2.2.2.2.2.2.2.2.2.2.2.2.2.2.2.2.2.2.2.2.2.2.1 t.2.2.2.2.2.2.2.2.2.2.2.2.2.2.2.2.2.2.2.2.2.2.2.2.2.2.2.2.1 t.2.2.2.2.2.2.2.2.2.2.2.2.2.2.2.2.2.2.2.2.2.2.2.2.2.2.2.2.2.1 t.2.2.2.2.2.2.2.2.2.2.2.2.2.2.2.2.2.2.2.2.2.2.2.2.2.2.2.2.2.2.1 t.2.2.2.2.2.2.2.2.2.2.2.2.2.2.2.2.2.2.2.2.2.2.2.2.2.2.2.2.2.2.2.1 t.2.2.2.2.2.2.2.2.2.2.2.2.2.2.2.2.2.2.2.2.2.2.2.2.2.2.2.2.2.2.2.2.1 t.2.2.2.2.2.2.2.2.2.2.2.2.2.2.2.2.2.2.2.2.2.2.2.2.2.2.2.2.2.2.2.2.2
@[irreducible] noncomputable def vT1_0 : PySem.Addr := zu.1
@[irreducible] noncomputable def vT1_1 : List PySem.Value := zu.2.1
@[irreducible] noncomputable def vT1_2 : PySem.Heap := zu.2.2.1
@[irreducible] noncomputable def vT1_3 : PySem.Heap := zu.2.2.2.1
@[irreducible] noncomputable def ys : List PySem.Value := zu.2.2.2.2.1
@[irreducible] noncomputable def vT1_5 : PySem.Addr := zu.2.2.2.2.2.1
@[irreducible] noncomputable def vT1_6 : PySem.Heap := zu.2.2.2.2.2.2.1
@[irreducible] noncomputable def vT1_7 : Nat := zu.2.2.2.2.2.2.2.1
@[irreducible] noncomputable def vT1_8 : PySem.Addr := zu.2.2.2.2.2.2.2.2.1
@[irreducible] noncomputable def vT1_9 : PySem.Heap := zu.2.2.2.2.2.2.2.2.2.1
@[irreducible] noncomputable def vT1_10 : PySem.Heap := zu.2.2.2.2.2.2.2.2.2.2.1
@[irreducible] noncomputable def vT1_11 : PySem.Addr := zu.2.2.2.2.2.2.2.2.2.2.2.1
@[irreducible] noncomputable def vT1_12 : PySem.Heap := zu.2.2.2.2.2.2.2.2.2.2.2.2.1
@[irreducible] noncomputable def vT1_13 : PySem.Heap := zu.2.2.2.2.2.2.2.2.2.2.2.2.2.1
@[irreducible] noncomputable def vT1_14 : PySem.Heap := zu.2.2.2.2.2.2.2.2.2.2.2.2.2.2.1
@[irreducible] noncomputable def vT1_15 : Nat := zu.2.2.2.2.2.2.2.2.2.2.2.2.2.2.2.1
@[irreducible] noncomputable def vT1_16 : PySem.Tok := zu.2.2.2.2.2.2.2.2.2.2.2.2.2.2.2.2.1
@[irreducible] noncomputable def vT1_17 : PySem.Tok := zu.2.2.2.2.2.2.2.2.2.2.2.2.2.2.2.2.2.1
@[irreducible] noncomputable def vT1_18 : PySem.Tok := zu.2.2.2.2.2.2.2.2.2.2.2.2.2.2.2.2.2.2.1
@[irreducible] noncomputable def ns9 : List Int := zu.2.2.2.2.2.2.2.2.2.2.2.2.2.2.2.2.2.2.2.1
@[irreducible] noncomputable def i : Nat := zu.2.2.2.2.2.2.2.2.2.2.2.2.2.2.2.2.2.2.2.2.1
@[irreducible] noncomputable def t : PySem.Tok := zu.2.2.2.2.2.2.2.2.2.2.2.2.2.2.2.2.2.2.2.2.2.1
@[irreducible] noncomputable def m₁ : PySem.Str → Option PySem.Value := zu.2.2.2.2.2.2.2.2.2.2.2.2.2.2.2.2.2.2.2.2.2.2.1
@[irreducible] noncomputable def h : PySem.Heap := zu.2.2.2.2.2.2.2.2.2.2.2.2.2.2.2.2.2.2.2.2.2.2.2.1
@[irreducible] noncomputable def tk : Nat := zu.2.2.2.2.2.2.2.2.2.2.2.2.2.2.2.2.2.2.2.2.2.2.2.2.1
@[irreducible] noncomputable def I : PySem.Addr := zu.2.2.2.2.2.2.2.2.2.2.2.2.2.2.2.2.2.2.2.2.2.2.2.2.2.1
@[irreducible] noncomputable def oI : PySem.Obj := zu.2.2.2.2.2.2.2.2.2.2.2.2.2.2.2.2.2.2.2.2.2.2.2.2.2.2.1
@[irreducible] noncomputable def rest : List (PySem.Addr × PySem.Obj) := zu.2.2.2.2.2.2.2.2.2.2.2.2.2.2.2.2.2.2.2.2.2.2.2.2.2.2.2.1
@[irreducible] noncomputable def c : Nat := zu.2.2.2.2.2.2.2.2.2.2.2.2.2.2.2.2.2.2.2.2.2.2.2.2.2.2.2.2.1
@[irreducible] noncomputable def c2 : Nat := zu.2.2.2.2.2.2.2.2.2.2.2.2.2.2.2.2.2.2.2.2.2.2.2.2.2.2.2.2.2.1
@[irreducible] noncomputable def c3 : Nat := zu.2.2.2.2.2.2.2.2.2.2.2.2.2.2.2.2.2.2.2.2.2.2.2.2.2.2.2.2.2.2.1
@[irreducible] noncomputable def t' : PySem.Tok := zu.2.2.2.2.2.2.2.2.2.2.2.2.2.2.2.2.2.2.2.2.2.2.2.2.2.2.2.2.2.2.2.1
@[irreducible] noncomputable def a0 : PySem.Addr := zu.2.2.2.2.2.2.2.2.2.2.2.2.2.2.2.2.2.2.2.2.2.2.2.2.2.2.2.2.2.2.2.2.1
@[irreducible] noncomputable def r0 : List Int := zu.2.2.2.2.2.2.2.2.2.2.2.2.2.2.2.2.2.2.2.2.2.2.2.2.2.2.2.2.2.2.2.2.2
theorem zk : Pf.L0.zb.Z.2.1 vT1_0 vT1_1 vT1_2 vT1_3 ys vT1_5 vT1_6 vT1_7 vT1_8 vT1_9 vT1_10 vT1_11 vT1_12 vT1_13 vT1_14 vT1_15 vT1_16 vT1_17 vT1_18 ns9 i t m₁ h tk I oI rest c c2 c3 t' a0 r0 → ∀ x0 x1 x2 x3 x4 x5 x6 x7 x8 x9 x10 x11 x12 x13 x14 x15 x16 x17 x18 x19 x20 x21 x22 x23 x24 x25 x26 x27 x28 x29 x30 x31 x32 x33, Pf.L0.zb.Z.2.1 x0 x1 x2 x3 x4 x5 x6 x7 x8 x9 x10 x11 x12 x13 x14 x15 x16 x17 x18 x19 x20 x21 x22 x23 x24 x25 x26 x27 x28 x29 x30 x31 x32 x33 := by
  delta vT1_0 vT1_1 vT1_2 vT1_3 ys vT1_5 vT1_6 vT1_7 vT1_8 vT1_9 vT1_10 vT1_11 vT1_12 vT1_13 vT1_14 vT1_15 vT1_16 vT1_17 vT1_18 ns9 i t m₁ h tk I oI rest c c2 c3 t' a0 r0
  exact fun h x0 x1 x2 x3 x4 x5 x6 x7 x8 x9 x10 x11 x12 x13 x14 x15 x16 x17 x18 x19 x20 x21 x22 x23 x24 x25 x26 x27 x28 x29 x30 x31 x32 x33 => all_eps (P := fun t => Pf.L0.zb.Z.2.1 t.1 t.2.1 t.2.2.1 t.2.2.2.1 t.2.2.2.2.1 t.2.2.2.2.2.1 t.2.2.2.2.2.2.1 t.2.2.2.2.2.2.2.1 t.2.2.2.2.2.2.2.2.1 t.2.2.2.2.2.2.2.2.2.1 t.2.2.2.2.2.2.2.2.2.2.1 t.2.2.2.2.2.2.2.2.2.2.2.1 t.2.2.2.2.2.2.2.2.2.2.2.2.1 t.2.2.2.2.2.2.2.2.2.2.2.2.2.1 t.2.2.2.2.2.2.2.2.2.2.2.2.2.2.1 t.2.2.2.2.2.2.2.2.2.2.2.2.2.2.2.1 t.2.2.2.2.2.2.2.2.2.2.2.2.2.2.2.2.1 t.2.2.2.2.2.2.2.2.2.2.2.2.2.2.2.2.2.1 t.2.2.2.2.2.2.2.2.2.2.2.2.2.2.2.2.2.2.1 t.2.2.2.2.2.2.2.2.2.2.2.2.2.2.2.2.2.2.2.1 t.2.2.2.2.2.2.2.2.2.2.2.2.2.2.2.2.2.2.2.2.1 t.2.2.2.2.2.2.2.2.2.2.2.2.2.2.2.2.2.2.2.2.2.1 t.2.2.2.2.2.2.2.2.2.2.2.2.2.2.2.2.2.2.2.2.2.2.1 t.2.2.2.2.2.2.2.2.2.2.2.2.2.2.2.2.2.2.2.2.2.2.2.1 t.2.2.2.2.2.2.2.2.2.2.2.2.2.2.2.2.2.2.2.2.2.2.2.2.1 t.2.2.2.2.2.2.2.2.2.2.2.2.2.2.2.2.2.2.2.2.2.2.2.2.2.1 t.2.2.2.2.2.2.2.2.2.2.2.2.2.2.2.2.2.2.2.2.2.2.2.2.2.2.1 t.2.2.2.2.2.2.2.2.2.2.2.2.2.2.2.2.2.2.2.2.2.2.2.2.2.2.2.1 t.2.2.2.2.2.2.2.2.2.2.2.2.2.2.2.2.2.2.2.2.2.2.2.2.2.2.2.2.1 t.2.2.2.2.2.2.2.2.2.2.2.2.2.2.2.2.2.2.2.2.2.2.2.2.2.2.2.2.2.1 t.2.2.2.2.2.2.2.2.2.2.2.2.2.2.2.2.2.2.2.2.2.2.2.2.2.2.2.2.2.2.1 t.2.2.2.2.2.2.2.2.2.2.2.2.2.2.2.2.2.2.2.2.2.2.2.2.2.2.2.2.2.2.2.1 t.2.2.2.2.2.2.2.2.2.2.2.2.2.2.2.2.2.2.2.2.2.2.2.2.2.2.2.2.2.2.2.2.1 t.2.2.2.2.2.2.2.2.2.2.2.2.2.2.2.2.2.2.2.2.2.2.2.2.2.2.2.2.2.2.2.2.2) h (x0, x1, x2, x3, x4, x5, x6, x7, x8, x9, x10, x11, x12, x13, x14, x15, x16, x17, x18, x19, x20, x21, x22, x23, x24, x25, x26, x27, x28, x29, x30, x31, x32, x33)
set_option maxHeartbeats 12000000 in
theorem zb : Pf.L0.zb.Z.2.1 vT1_0 vT1_1 vT1_2 vT1_3 ys vT1_5 vT1_6 vT1_7 vT1_8 vT1_9 vT1_10 vT1_11 vT1_12 vT1_13 vT1_14 vT1_15 vT1_16 vT1_17 vT1_18 ns9 i t m₁ h tk I oI rest c c2 c3 t' a0 r0 := by
  intro G Y ho hg KX X V GL T B TE TW M hcd _ _ _ _ _ _ _ _ _ _ _ _ _ K0 hD hqk _ _ _ _ _ _ _ _ _ _ _ _ _ _ _ _ _ hI10 hL10 hi hm _ ho N₁ j1 j2 j3 j4 j5 F₁
  have hfill : (PySem.Challenge.rw_pf0148_01, hd.heap_39) = (PySem.Challenge.rw_pf0148_01, hd.heap_39) := rfl
  revert hfill
  k_fill
  intro hfill; clear hfill
  (k_steps; (all_goals (try ((with_reducible refine unheld ?_); (first | fin_once hold walk1 | fail); (try k_steps)))); (all_goals (try ((with_reducible refine unheld ?_); (first | fin_once hold walk1 | fail); (try k_steps)))); (all_goals (try ((with_reducible refine unheld ?_); (first | (refine' con_use1 ?k1_372 ?k2_372 ?k3_372 ?k4_372 ?k5_372 ?kK_372 ?kd_372 ?ku_372 ?q1_372 (c_draw _ _ _ _ _ _ _ _ _ 0 _ _ _ _ _ _ ?n1_372 ?m1_372 ?a1_372 ?a2_372 ?l2_372 ?l3_372 ?l4_372) ?_; (case k1_372 => k_asm); (case k2_372 => k_asm); (case k3_372 => k_asm); (case k4_372 => k_asm); (case k5_372 => k_asm); (case kK_372 => first | exact rfl | assumption); (case q1_372 => (walk_at "PICK")); (case n1_372 => k_all); (case m1_372 => k_mem); (case a1_372 => assumption); (case a2_372 => assumption); (case l2_372 => omega); (case l3_372 => omega); (case l4_372 => omega); (case kd_372 => ktr_room); (case ku_372 => ktr_units); k_whole;  intro z9z t9z t8z y9z y8z h9z tk9z F9z N9z; (try dsimp only); (try k_fold)) | fin_once hold walk1 | fail); (try k_steps)))); (all_goals (try ((with_reducible refine unheld ?_); (first | fin_once hold walk1 | fail); (try k_steps)))); (all_goals (try ((with_reducible refine unheld ?_); (first | fin_once hold walk1 | fail); (try k_steps)))); (all_goals (try ((with_reducible refine unheld ?_); (first | (refine' con_use1 ?k1_373 ?k2_373 ?k3_373 ?k4_373 ?k5_373 ?kK_373 ?kd_373 ?ku_373 ?q1_373 (c_draw _ _ _ _ _ _ _ _ _ 0 _ _ _ _ _ _ ?n1_373 ?m1_373 ?a1_373 ?a2_373 ?l2_373 ?l3_373 ?l4_373) ?_; (case k1_373 => k_asm); (case k2_373 => k_asm); (case k3_373 => k_asm); (case k4_373 => k_asm); (case k5_373 => k_asm); (case kK_373 => first | exact rfl | assumption); (case q1_373 => (walk_at "PICK")); (case n1_373 => k_all); (case m1_373 => k_mem); (case a1_373 => assumption); (case a2_373 => assumption); (case l2_373 => omega); (case l3_373 => omega); (case l4_373 => omega); (case kd_373 => ktr_room); (case ku_373 => ktr_units); k_whole;  intro z9z t9z t8z y9z y8z h9z tk9z F9z N9z; (try dsimp only); (try k_fold)) | fin_once hold walk1 | fail); (try k_steps)))); (all_goals (try ((with_reducible refine unheld ?_); (first | (refine' con_use1 ?k1_374 ?k2_374 ?k3_374 ?k4_374 ?k5_374 ?kK_374 ?kd_374 ?ku_374 ?q1_374 (c_draw _ _ _ _ _ _ _ _ _ 0 _ _ _ _ _ _ ?n1_374 ?m1_374 ?a1_374 ?a2_374 ?l2_374 ?l3_374 ?l4_374) ?_; (case k1_374 => k_asm); (case k2_374 => k_asm); (case k3_374 => k_asm); (case k4_374 => k_asm); (case k5_374 => k_asm); (case kK_374 => first | exact rfl | assumption); (case q1_374 => (walk_at "PICK")); (case n1_374 => k_all); (case m1_374 => k_mem); (case a1_374 => assumption); (case a2_374 => assumption); (case l2_374 => omega); (case l3_374 => omega); (case l4_374 => omega); (case kd_374 => ktr_room); (case ku_374 => ktr_units); k_whole;  intro z9z t9z t8z y9z y8z h9z tk9z F9z N9z; (try dsimp only); (try k_fold)) | fin_once hold walk1 | fail); (try k_steps)))); (all_goals (try ((with_reducible refine unheld ?_); (first | fin_once hold walk1 | fail); (try k_steps)))))
  all_goals unfold Blocked
  all_goals
    refine' turn_end ?ua ?ub ?uc ?ud ⟨?um, JA.two ?v1 ?v2 ?v3 ?v4 ?v5 ?v6 ?v7 ?v8 ?v9 j5⟩
    case ua => k_asm
    case ub => k_asm
    case v1 => assumption
    case v2 => assumption
    case v3 => assumption
    case v4 => assumption
    case v7 => assumption
    case uc => walk_at "SUB"
    case v5 => k_ne
    case v6 => k_ne
    case v9 => exact rep_len (by omega) (by omega)
    case v8 => first | exact rep_row (by decide) | exact rep_row' (by decide)
    case ud => k_all
    case um => exact fun z h1 h2 h3 => by simp only [if_neg h1, if_neg h2, if_neg h3]
end T1
namespace T2
noncomputable def zu : PySem.Addr × (List PySem.Value) × PySem.Heap × PySem.Heap × (List PySem.Value) × PySem.Addr × PySem.Heap × Nat × PySem.Addr × PySem.Heap × PySem.Heap × PySem.Addr × PySem.Heap × PySem.Heap × PySem.Heap × Nat × PySem.Tok × PySem.Tok × PySem.Tok × (List Int) × Nat × PySem.Tok × (PySem.Str → Option PySem.Value) × PySem.Heap × Nat × PySem.Addr × PySem.Obj × (List (PySem.Addr × PySem.Obj)) × Nat × Nat × Nat × PySem.Tok × PySem.Addr × (List Int) × PySem.Addr × (List Int) := eps (0, [], {}, {}, [], 0, {}, 0, 0, {}, {}, 0, {}, {}, {}, 0, 0, 0, 0, [], 0, 0, (fun _ => none), {}, 0, 0, { cls := .none, data := .fields #[] }, [], 0, 0, 0, 0, 0, [], 0, []) fun t => Pf.L0.zb.Z.2.2.1 t.1 t.2.1 t.2.2.1 t.2.2.2.1 t.2.2.2.2.1 t.2.2.2.2.2.1 t.2.2.2.2.2.2.1 t.2.2.2.2.2.2.2.1 t.2.2.2.2.2.2.2.2.1 t.2.2.2.2.2.2.2.2.2.1 t.2.2.2.2.2.2.2.2.2.2.1 t.2.2.2.2.2.2.2.2.2.2.2.1 t.2.2.2.2.2.2.2.2.2.2.2.2.1 t.2.2.2.2.2.2.2.2.2.2.2.2.2.1 t.2.2.2.2.2.2.2.2.2.2.2.2.2.2.1 t.2.2.2.2.2.2.2.2.2.2.2.2.2.2.2.1 t.2.2.2.2.2.2.2.2.2.2.2.2.2.2.2.2.1 t.2.2.2.2.2.2.2.2.2.2.2.2.2.2.2.2.2.1 t.2.2.2.2.2.2.2.2.2.2.2.2.2.2.2.2.2.2.1 t.2.2.2.2.2.2.2.2.2.2.2.2.2.2.2.2.2.2.2.1 t.2.2.2.2.2.2.2.2.2.2.2.2.2.2.2.2.2.2.2.2.1 t.2.2.2.2.2.2.2.2.2.2.2.2.2.2.2.2.2.2.2.2.2.1 t.2.2.2.2.2.2.2.2.2.2.2.2.2.2.2.2.2.2.2.2.2.2.1 t.2.2.2.2.2.2.2.2.2.2.2.2.2.2.2.2.2.2.2.2.2.2.2.1 t.2.2.2.2.2.2.2.2.2.2.2.2.2.2.2.2.2.2.2.2.2.2.2.2.1 t.2.2.2.2.2.2.2.2.2.2.2.2.2.2.2.2.2.2.2.2.2.2.2.2.2.1 t.2.2.2.2.2.2.2.2.2.2.2.2.2.2.2.2.2.2.2.2.2.2.2.2.2.2.1 t.2.2.2.2.2.2.2.2.2.2.2.2.2.2.2.2.2.2.2.2.2.2.2.2.2.2.2.1 t.2.2.2.2.2.2.2.2.2.2.2.2.2.2.2.2.2.2.2.2.2.2.2.2.2.2.2.2.1 t.2.2.2.2.2.2.2.2.2.2.2.2.2.2.2.2.2.2.2.2.2.2.2.2.2.2.2.2.2.1 t.2.2.2.2.2.2.2.2.2.2.2.2.2.2.2.2.2.2.2.2.2.2.2.2.2.2.2.2.2.2.1 t.2.2.2.2.2.2.2.2.2.2.2.2.2.2.2.2.2.2.2.2.2.2.2.2.2.2.2.2.2.2.2.1 t.2.2.2.2.2.2.2.2.2.2.2.2.2.2.2.2.2.2.2.2.2.2.2.2.2.2.2.2.2.2.2.2.1 t.2.2.2.2.2.2.2.2.2.2.2.2.2.2.2.2.2.2.2.2.2.2.2.2.2.2.2.2.2.2.2.2.2.1 t.2.2.2.2.2.2.2.2.2.2.2.2.2.2.2.2.2.2.2.2.2.2.2.2.2.2.2.2.2.2.2.2.2.2.1 t.2.2.2.2.2.2.2.2.2.2.2.2.2.2.2.2.2.2.2.2.2.2.2.2.2.2.2.2.2.2.2.2.2.2.2
@[irreducible] noncomputable def vT2_0 : PySem.Addr := zu.1
@[irreducible] noncomputable def vT2_1 : List PySem.Value := zu.2.1
@[irreducible] noncomputable def vT2_2 : PySem.Heap := zu.2.2.1
@[irreducible] noncomputable def vT2_3 : PySem.Heap := zu.2.2.2.1
@[irreducible] noncomputable def ys : List PySem.Value := zu.2.2.2.2.1
@[irreducible] noncomputable def vT2_5 : PySem.Addr := zu.2.2.2.2.2.1
@[irreducible] noncomputable def vT2_6 : PySem.Heap := zu.2.2.2.2.2.2.1
@[irreducible] noncomputable def vT2_7 : Nat := zu.2.2.2.2.2.2.2.1
@[irreducible] noncomputable def vT2_8 : PySem.Addr := zu.2.2.2.2.2.2.2.2.1
@[irreducible] noncomputable def vT2_9 : PySem.Heap := zu.2.2.2.2.2.2.2.2.2.1
@[irreducible] noncomputable def vT2_10 : PySem.Heap := zu.2.2.2.2.2.2.2.2.2.2.1
@[irreducible] noncomputable def vT2_11 : PySem.Addr := zu.2.2.2.2.2.2.2.2.2.2.2.1
@[irreducible] noncomputable def vT2_12 : PySem.Heap := zu.2.2.2.2.2.2.2.2.2.2.2.2.1
@[irreducible] noncomputable def vT2_13 : PySem.Heap := zu.2.2.2.2.2.2.2.2.2.2.2.2.2.1
@[irreducible] noncomputable def vT2_14 : PySem.Heap := zu.2.2.2.2.2.2.2.2.2.2.2.2.2.2.1
@[irreducible] noncomputable def vT2_15 : Nat := zu.2.2.2.2.2.2.2.2.2.2.2.2.2.2.2.1
@[irreducible] noncomputable def vT2_16 : PySem.Tok := zu.2.2.2.2.2.2.2.2.2.2.2.2.2.2.2.2.1
@[irreducible] noncomputable def vT2_17 : PySem.Tok := zu.2.2.2.2.2.2.2.2.2.2.2.2.2.2.2.2.2.1
@[irreducible] noncomputable def vT2_18 : PySem.Tok := zu.2.2.2.2.2.2.2.2.2.2.2.2.2.2.2.2.2.2.1
@[irreducible] noncomputable def ns9 : List Int := zu.2.2.2.2.2.2.2.2.2.2.2.2.2.2.2.2.2.2.2.1
@[irreducible] noncomputable def i : Nat := zu.2.2.2.2.2.2.2.2.2.2.2.2.2.2.2.2.2.2.2.2.1
@[irreducible] noncomputable def t : PySem.Tok := zu.2.2.2.2.2.2.2.2.2.2.2.2.2.2.2.2.2.2.2.2.2.1
@[irreducible] noncomputable def m₁ : PySem.Str → Option PySem.Value := zu.2.2.2.2.2.2.2.2.2.2.2.2.2.2.2.2.2.2.2.2.2.2.1
@[irreducible] noncomputable def h : PySem.Heap := zu.2.2.2.2.2.2.2.2.2.2.2.2.2.2.2.2.2.2.2.2.2.2.2.1
@[irreducible] noncomputable def tk : Nat := zu.2.2.2.2.2.2.2.2.2.2.2.2.2.2.2.2.2.2.2.2.2.2.2.2.1
@[irreducible] noncomputable def I : PySem.Addr := zu.2.2.2.2.2.2.2.2.2.2.2.2.2.2.2.2.2.2.2.2.2.2.2.2.2.1
@[irreducible] noncomputable def oI : PySem.Obj := zu.2.2.2.2.2.2.2.2.2.2.2.2.2.2.2.2.2.2.2.2.2.2.2.2.2.2.1
@[irreducible] noncomputable def rest : List (PySem.Addr × PySem.Obj) := zu.2.2.2.2.2.2.2.2.2.2.2.2.2.2.2.2.2.2.2.2.2.2.2.2.2.2.2.1
@[irreducible] noncomputable def c : Nat := zu.2.2.2.2.2.2.2.2.2.2.2.2.2.2.2.2.2.2.2.2.2.2.2.2.2.2.2.2.1
@[irreducible] noncomputable def c2 : Nat := zu.2.2.2.2.2.2.2.2.2.2.2.2.2.2.2.2.2.2.2.2.2.2.2.2.2.2.2.2.2.1
@[irreducible] noncomputable def c3 : Nat := zu.2.2.2.2.2.2.2.2.2.2.2.2.2.2.2.2.2.2.2.2.2.2.2.2.2.2.2.2.2.2.1
@[irreducible] noncomputable def t' : PySem.Tok := zu.2.2.2.2.2.2.2.2.2.2.2.2.2.2.2.2.2.2.2.2.2.2.2.2.2.2.2.2.2.2.2.1
@[irreducible] noncomputable def a0 : PySem.Addr := zu.2.2.2.2.2.2.2.2.2.2.2.2.2.2.2.2.2.2.2.2.2.2.2.2.2.2.2.2.2.2.2.2.1
@[irreducible] noncomputable def r0 : List Int := zu.2.2.2.2.2.2.2.2.2.2.2.2.2.2.2.2.2.2.2.2.2.2.2.2.2.2.2.2.2.2.2.2.2.1
@[irreducible] noncomputable def a1 : PySem.Addr := zu.2.2.2.2.2.2.2.2.2.2.2.2.2.2.2.2.2.2.2.2.2.2.2.2.2.2.2.2.2.2.2.2.2.2.1
@[irreducible] noncomputable def r1 : List Int := zu.2.2.2.2.2.2.2.2.2.2.2.2.2.2.2.2.2.2.2.2.2.2.2.2.2.2.2.2.2.2.2.2.2.2.2
theorem zk : Pf.L0.zb.Z.2.2.1 vT2_0 vT2_1 vT2_2 vT2_3 ys vT2_5 vT2_6 vT2_7 vT2_8 vT2_9 vT2_10 vT2_11 vT2_12 vT2_13 vT2_14 vT2_15 vT2_16 vT2_17 vT2_18 ns9 i t m₁ h tk I oI rest c c2 c3 t' a0 r0 a1 r1 → ∀ x0 x1 x2 x3 x4 x5 x6 x7 x8 x9 x10 x11 x12 x13 x14 x15 x16 x17 x18 x19 x20 x21 x22 x23 x24 x25 x26 x27 x28 x29 x30 x31 x32 x33 x34 x35, Pf.L0.zb.Z.2.2.1 x0 x1 x2 x3 x4 x5 x6 x7 x8 x9 x10 x11 x12 x13 x14 x15 x16 x17 x18 x19 x20 x21 x22 x23 x24 x25 x26 x27 x28 x29 x30 x31 x32 x33 x34 x35 := by
  delta vT2_0 vT2_1 vT2_2 vT2_3 ys vT2_5 vT2_6 vT2_7 vT2_8 vT2_9 vT2_10 vT2_11 vT2_12 vT2_13 vT2_14 vT2_15 vT2_16 vT2_17 vT2_18 ns9 i t m₁ h tk I oI rest c c2 c3 t' a0 r0 a1 r1
  exact fun h x0 x1 x2 x3 x4 x5 x6 x7 x8 x9 x10 x11 x12 x13 x14 x15 x16 x17 x18 x19 x20 x21 x22 x23 x24 x25 x26 x27 x28 x29 x30 x31 x32 x33 x34 x35 => all_eps (P := fun t => Pf.L0.zb.Z.2.2.1 t.1 t.2.1 t.2.2.1 t.2.2.2.1 t.2.2.2.2.1 t.2.2.2.2.2.1 t.2.2.2.2.2.2.1 t.2.2.2.2.2.2.2.1 t.2.2.2.2.2.2.2.2.1 t.2.2.2.2.2.2.2.2.2.1 t.2.2.2.2.2.2.2.2.2.2.1 t.2.2.2.2.2.2.2.2.2.2.2.1 t.2.2.2.2.2.2.2.2.2.2.2.2.1 t.2.2.2.2.2.2.2.2.2.2.2.2.2.1 t.2.2.2.2.2.2.2.2.2.2.2.2.2.2.1 t.2.2.2.2.2.2.2.2.2.2.2.2.2.2.2.1 t.2.2.2.2.2.2.2.2.2.2.2.2.2.2.2.2.1 t.2.2.2.2.2.2.2.2.2.2.2.2.2.2.2.2.2.1 t.2.2.2.2.2.2.2.2.2.2.2.2.2.2.2.2.2.2.1 t.2.2.2.2.2.2.2.2.2.2.2.2.2.2.2.2.2.2.2.1 t.2.2.2.2.2.2.2.2.2.2.2.2.2.2.2.2.2.2.2.2.1 t.2.2.2.2.2.2.2.2.2.2.2.2.2.2.2.2.2.2.2.2.2.1 t.2.2.2.2.2.2.2.2.2.2.2.2.2.2.2.2.2.2.2.2.2.2.1 t.2.2.2.2.2.2.2.2.2.2.2.2.2.2.2.2.2.2.2.2.2.2.2.1 t.2.2.2.2.2.2.2.2.2.2.2.2.2.2.2.2.2.2.2.2.2.2.2.2.1 t.2.2.2.2.2.2.2.2.2.2.2.2.2.2.2.2.2.2.2.2.2.2.2.2.2.1 t.2.2.2.2.2.2.2.2.2.2.2.2.2.2.2.2.2.2.2.2.2.2.2.2.2.2.1 t.2.2.2.2.2.2.2.2.2.2.2.2.2.2.2.2.2.2.2.2.2.2.2.2.2.2.2.1 t.2.2.2.2.2.2.2.2.2.2.2.2.2.2.2.2.2.2.2.2.2.2.2.2.2.2.2.2.1 t.2.2.2.2.2.2.2.2.2.2.2.2.2.2.2.2.2.2.2.2.2.2.2.2.2.2.2.2.2.1 t.2.2.2.2.2.2.2.2.2.2.2.2.2.2.2.2.2.2.2.2.2.2.2.2.2.2.2.2.2.2.1 t.2.2.2.2.2.2.2.2.2.2.2.2.2.2.2.2.2.2.2.2.2.2.2.2.2.2.2.2.2.2.2.1 t.2.2.2.2.2.2.2.2.2.2.2.2.2.2.2.2.2.2.2.2.2.2.2.2.2.2.2.2.2.2.2.2.1 t.2.2.2.2.2.2.2.2.2.2.2.2.2.2.2.2.2.2.2.2.2.2.2.2.2.2.2.2.2.2.2.2.2.1 t.2.2.2.2.2.2.2.2.2.2.2.2.2.2.2.2.2.2.2.2.2.2.2.2.2.2.2.2.2.2.2.2.2.2.1 t.2.2.2.2.2.2.2.2.2.2.2.2.2.2.2.2.2.2.2.2.2.2.2.2.2.2.2.2.2.2.2.2.2.2.2) h (x0, x1, x2, x3, x4, x5, x6, x7, x8, x9, x10, x11, x12, x13, x14, x15, x16, x17, x18, x19, x20, x21, x22, x23, x24, x25, x26, x27, x28, x29, x30, x31, x32, x33, x34, x35)
set_option maxHeartbeats 12000000 in
theorem zb : Pf.L0.zb.Z.2.2.1 vT2_0 vT2_1 vT2_2 vT2_3 ys vT2_5 vT2_6 vT2_7 vT2_8 vT2_9 vT2_10 vT2_11 vT2_12 vT2_13 vT2_14 vT2_15 vT2_16 vT2_17 vT2_18 ns9 i t m₁ h tk I oI rest c c2 c3 t' a0 r0 a1 r1 := by
  intro G Y ho hg KX X V GL T B TE TW M hcd _ _ _ _ _ _ _ _ _ _ _ _ _ K0 hD hqk _ _ _ _ _ _ _ _ _ _ _ _ _ _ _ _ _ hI10 hL10 hi hm _ ho N₁ j1 j2 j3 j4 j5 j6 F₁
  have hfill : (PySem.Challenge.rw_pf0148_01, hd.heap_39) = (PySem.Challenge.rw_pf0148_01, hd.heap_39) := rfl
  revert hfill
  k_fill
  intro hfill; clear hfill
  (k_steps; (all_goals (try ((with_reducible refine unheld ?_); (first | fin_once hold walk1 | fail); (try k_steps)))); (all_goals (try ((with_reducible refine unheld ?_); (first | fin_once hold walk1 | fail); (try k_steps)))); (all_goals (try ((with_reducible refine unheld ?_); (first | (refine' con_use1 ?k1_375 ?k2_375 ?k3_375 ?k4_375 ?k5_375 ?kK_375 ?kd_375 ?ku_375 ?q1_375 (c_draw _ _ _ _ _ _ _ _ _ 0 _ _ _ _ _ _ ?n1_375 ?m1_375 ?a1_375 ?a2_375 ?l2_375 ?l3_375 ?l4_375) ?_; (case k1_375 => k_asm); (case k2_375 => k_asm); (case k3_375 => k_asm); (case k4_375 => k_asm); (case k5_375 => k_asm); (case kK_375 => first | exact rfl | assumption); (case q1_375 => (walk_at "PICK")); (case n1_375 => k_all); (case m1_375 => k_mem); (case a1_375 => assumption); (case a2_375 => assumption); (case l2_375 => omega); (case l3_375 => omega); (case l4_375 => omega); (case kd_375 => ktr_room); (case ku_375 => ktr_units); k_whole;  intro z9z t9z t8z y9z y8z h9z tk9z F9z N9z; (try dsimp only); (try k_fold)) | fin_once hold walk1 | fail); (try k_steps)))); (all_goals (try ((with_reducible refine unheld ?_); (first | fin_once hold walk1 | fail); (try k_steps)))); (all_goals (try ((with_reducible refine unheld ?_); (first | fin_once hold walk1 | fail); (try k_steps)))); (all_goals (try ((with_reducible refine unheld ?_); (first | (refine' con_use1 ?k1_376 ?k2_376 ?k3_376 ?k4_376 ?k5_376 ?kK_376 ?kd_376 ?ku_376 ?q1_376 (c_draw _ _ _ _ _ _ _ _ _ 0 _ _ _ _ _ _ ?n1_376 ?m1_376 ?a1_376 ?a2_376 ?l2_376 ?l3_376 ?l4_376) ?_; (case k1_376 => k_asm); (case k2_376 => k_asm); (case k3_376 => k_asm); (case k4_376 => k_asm); (case k5_376 => k_asm); (case kK_376 => first | exact rfl | assumption); (case q1_376 => (walk_at "PICK")); (case n1_376 => k_all); (case m1_376 => k_mem); (case a1_376 => assumption); (case a2_376 => assumption); (case l2_376 => omega); (case l3_376 => omega); (case l4_376 => omega); (case kd_376 => ktr_room); (case ku_376 => ktr_units); k_whole;  intro z9z t9z t8z y9z y8z h9z tk9z F9z N9z; (try dsimp only); (try k_fold)) | fin_once hold walk1 | fail); (try k_steps)))); (all_goals (try ((with_reducible refine unheld ?_); (first | (refine' con_use1 ?k1_377 ?k2_377 ?k3_377 ?k4_377 ?k5_377 ?kK_377 ?kd_377 ?ku_377 ?q1_377 (c_draw _ _ _ _ _ _ _ _ _ 0 _ _ _ _ _ _ ?n1_377 ?m1_377 ?a1_377 ?a2_377 ?l2_377 ?l3_377 ?l4_377) ?_; (case k1_377 => k_asm); (case k2_377 => k_asm); (case k3_377 => k_asm); (case k4_377 => k_asm); (case k5_377 => k_asm); (case kK_377 => first | exact rfl | assumption); (case q1_377 => (walk_at "PICK")); (case n1_377 => k_all); (case m1_377 => k_mem); (case a1_377 => assumption); (case a2_377 => assumption); (case l2_377 => omega); (case l3_377 => omega); (case l4_377 => omega); (case kd_377 => ktr_room); (case ku_377 => ktr_units); k_whole;  intro z9z t9z t8z y9z y8z h9z tk9z F9z N9z; (try dsimp only); (try k_fold)) | fin_once hold walk1 | fail); (try k_steps)))); (all_goals (try ((with_reducible refine unheld ?_); (first | fin_once hold walk1 | fail); (try k_steps)))))
  all_goals unfold Blocked
  all_goals
    refine' turn_end ?ua ?ub ?uc ?ud ⟨?um, JA.three ?v1 ?v2 ?v3 ?v4 ?v5 ?v6 ?v7 ?v8 ?v9 j5 j6⟩
    case ua => k_asm
    case ub => k_asm
    case v1 => assumption
    case v2 => assumption
    case v3 => assumption
    case v4 => assumption
    case v7 => assumption
    case uc => walk_at "SUB"
    case v5 => k_ne
    case v6 => k_ne
    case v9 => exact rep_len (by omega) (by omega)
    case v8 => first | exact rep_row (by decide) | exact rep_row' (by decide)
    case ud => k_all
    case um => exact fun z h1 h2 h3 => by simp only [if_neg h1, if_neg h2, if_neg h3]
end T2
namespace D0
noncomputable def zu : PySem.Addr × (List PySem.Value) × PySem.Heap × PySem.Heap × (List PySem.Value) × PySem.Addr × PySem.Heap × Nat × PySem.Addr × PySem.Heap × PySem.Heap × PySem.Addr × PySem.Heap × PySem.Heap × PySem.Heap × Nat × PySem.Tok × PySem.Tok × PySem.Tok × (List Int) × (PySem.Str → Option PySem.Value) × PySem.Heap × Nat × (List (PySem.Addr × PySem.Obj)) × Nat × Nat × Nat × PySem.Tok × PySem.Addr × (List Int) × PySem.Addr × (List Int) × PySem.Addr × (List Int) := eps (0, [], {}, {}, [], 0, {}, 0, 0, {}, {}, 0, {}, {}, {}, 0, 0, 0, 0, [], (fun _ => none), {}, 0, [], 0, 0, 0, 0, 0, [], 0, [], 0, []) fun t => Pf.L0.zb.Z.2.2.2.1 t.1 t.2.1 t.2.2.1 t.2.2.2.1 t.2.2.2.2.1 t.2.2.2.2.2.1 t.2.2.2.2.2.2.1 t.2.2.2.2.2.2.2.1 t.2.2.2.2.2.2.2.2.1 t.2.2.2.2.2.2.2.2.2.1 t.2.2.2.2.2.2.2.2.2.2.1 t.2.2.2.2.2.2.2.2.2.2.2.1 t.2.2.2.2.2.2.2.2.2.2.2.2.1 t.2.2.2.2.2.2.2.2.2.2.2.2.2.1 t.2.2.2.2.2.2.2.2.2.2.2.2.2.2.1 t.2.2.2.2.2.2.2.2.2.2.2.2.2.2.2.1 t.2.2.2.2.2.2.2.2.2.2.2.2.2.2.2.2.1 t.2.2.2.2.2.2.2.2.2.2.2.2.2.2.2.2.2.1 t.2.2.2.2.2.2.2.2.2.2.2.2.2.2.2.2.2.2.1 t.2.2.2.2.2.2.2.2.2.2.2.2.2.2.2.2.2.2.2.1 t.2.2.2.2.2.2.2.2.2.2.2.2.2.2.2.2.2.2.2.2.1 t.2.2.2.2.2.2.2.2.2.2.2.2.2.2.2.2.2.2.2.2.2.1 t.2.2.2.2.2.2.2.2.2.2.2.2.2.2.2.2.2.2.2.2.2.2.1 t.2.2.2.2.2.2.2.2.2.2.2.2.2.2.2.2.2.2.2.2.2.2.2.1 t.2.2.2.2.2.2.2.2.2.2.2.2.2.2.2.2.2.2.2.2.2.2.2.2.1 t.2.2.2.2.2.2.2.2.2.2.2.2.2.2.2.2.2.2.2.2.2.2.2.2.2.1 t.2.2.2.2.2.2.2.2.2.2.2.2.2.2.2.2.2.2.2.2.2.2.2.2.2.2.1 t.2.2.2.2.2.2.2.2.2.2.2.2.2.2.2.2.2.2.2.2.2.2.2.2.2.2.2.1 t.2.2.2.2.2.2.2.2.2.2.2.2.2.2.2.2.2.2.2.2.2.2.2.2.2.2.2.2.1 t.2.2.2.2.2.2.2.2.2.2.2.2.2.2.2.2.2.2.2.2.2.2.2.2.2.2.2.2.2.1 t.2.2.2.2.2.2.2.2.2.2.2.2.2.2.2.2.2.2.2.2.2.2.2.2.2.2.2.2.2.2.1 t.2.2.2.2.2.2.2.2.2.2.2.2.2.2.2.2.2.2.2.2.2.2.2.2.2.2.2.2.2.2.2.1 t.2.2.2.2.2.2.2.2.2.2.2.2.2.2.2.2.2.2.2.2.2.2.2.2.2.2.2.2.2.2.2.2.1 t.2.2.2.2.2.2.2.2.2.2.2.2.2.2.2.2.2.2.2.2.2.2.2.2.2.2.2.2.2.2.2.2.2
@[irreducible] noncomputable def vD0_0 : PySem.Addr := zu.1
@[irreducible] noncomputable def vD0_1 : List PySem.Value := zu.2.1
@[irreducible] noncomputable def vD0_2 : PySem.Heap := zu.2.2.1
@[irreducible] noncomputable def vD0_3 : PySem.Heap := zu.2.2.2.1
@[irreducible] noncomputable def ys : List PySem.Value := zu.2.2.2.2.1
@[irreducible] noncomputable def vD0_5 : PySem.Addr := zu.2.2.2.2.2.1
@[irreducible] noncomputable def vD0_6 : PySem.Heap := zu.2.2.2.2.2.2.1
@[irreducible] noncomputable def vD0_7 : Nat := zu.2.2.2.2.2.2.2.1
@[irreducible] noncomputable def vD0_8 : PySem.Addr := zu.2.2.2.2.2.2.2.2.1
@[irreducible] noncomputable def vD0_9 : PySem.Heap := zu.2.2.2.2.2.2.2.2.2.1
@[irreducible] noncomputable def vD0_10 : PySem.Heap := zu.2.2.2.2.2.2.2.2.2.2.1
@[irreducible] noncomputable def vD0_11 : PySem.Addr := zu.2.2.2.2.2.2.2.2.2.2.2.1
@[irreducible] noncomputable def vD0_12 : PySem.Heap := zu.2.2.2.2.2.2.2.2.2.2.2.2.1
@[irreducible] noncomputable def vD0_13 : PySem.Heap := zu.2.2.2.2.2.2.2.2.2.2.2.2.2.1
@[irreducible] noncomputable def vD0_14 : PySem.Heap := zu.2.2.2.2.2.2.2.2.2.2.2.2.2.2.1
@[irreducible] noncomputable def vD0_15 : Nat := zu.2.2.2.2.2.2.2.2.2.2.2.2.2.2.2.1
@[irreducible] noncomputable def vD0_16 : PySem.Tok := zu.2.2.2.2.2.2.2.2.2.2.2.2.2.2.2.2.1
@[irreducible] noncomputable def vD0_17 : PySem.Tok := zu.2.2.2.2.2.2.2.2.2.2.2.2.2.2.2.2.2.1
@[irreducible] noncomputable def vD0_18 : PySem.Tok := zu.2.2.2.2.2.2.2.2.2.2.2.2.2.2.2.2.2.2.1
@[irreducible] noncomputable def ns9 : List Int := zu.2.2.2.2.2.2.2.2.2.2.2.2.2.2.2.2.2.2.2.1
@[irreducible] noncomputable def m₁ : PySem.Str → Option PySem.Value := zu.2.2.2.2.2.2.2.2.2.2.2.2.2.2.2.2.2.2.2.2.1
@[irreducible] noncomputable def h : PySem.Heap := zu.2.2.2.2.2.2.2.2.2.2.2.2.2.2.2.2.2.2.2.2.2.1
@[irreducible] noncomputable def tk : Nat := zu.2.2.2.2.2.2.2.2.2.2.2.2.2.2.2.2.2.2.2.2.2.2.1
@[irreducible] noncomputable def rest : List (PySem.Addr × PySem.Obj) := zu.2.2.2.2.2.2.2.2.2.2.2.2.2.2.2.2.2.2.2.2.2.2.2.1
@[irreducible] noncomputable def c : Nat := zu.2.2.2.2.2.2.2.2.2.2.2.2.2.2.2.2.2.2.2.2.2.2.2.2.1
@[irreducible] noncomputable def c2 : Nat := zu.2.2.2.2.2.2.2.2.2.2.2.2.2.2.2.2.2.2.2.2.2.2.2.2.2.1
@[irreducible] noncomputable def c3 : Nat := zu.2.2.2.2.2.2.2.2.2.2.2.2.2.2.2.2.2.2.2.2.2.2.2.2.2.2.1
@[irreducible] noncomputable def t' : PySem.Tok := zu.2.2.2.2.2.2.2.2.2.2.2.2.2.2.2.2.2.2.2.2.2.2.2.2.2.2.2.1
@[irreducible] noncomputable def a0 : PySem.Addr := zu.2.2.2.2.2.2.2.2.2.2.2.2.2.2.2.2.2.2.2.2.2.2.2.2.2.2.2.2.1
@[irreducible] noncomputable def r0 : List Int := zu.2.2.2.2.2.2.2.2.2.2.2.2.2.2.2.2.2.2.2.2.2.2.2.2.2.2.2.2.2.1
@[irreducible] noncomputable def a1 : PySem.Addr := zu.2.2.2.2.2.2.2.2.2.2.2.2.2.2.2.2.2.2.2.2.2.2.2.2.2.2.2.2.2.2.1
@[irreducible] noncomputable def r1 : List Int := zu.2.2.2.2.2.2.2.2.2.2.2.2.2.2.2.2.2.2.2.2.2.2.2.2.2.2.2.2.2.2.2.1
@[irreducible] noncomputable def a2 : PySem.Addr := zu.2.2.2.2.2.2.2.2.2.2.2.2.2.2.2.2.2.2.2.2.2.2.2.2.2.2.2.2.2.2.2.2.1
@[irreducible] noncomputable def r2 : List Int := zu.2.2.2.2.2.2.2.2.2.2.2.2.2.2.2.2.2.2.2.2.2.2.2.2.2.2.2.2.2.2.2.2.2
theorem zk : Pf.L0.zb.Z.2.2.2.1 vD0_0 vD0_1 vD0_2 vD0_3 ys vD0_5 vD0_6 vD0_7 vD0_8 vD0_9 vD0_10 vD0_11 vD0_12 vD0_13 vD0_14 vD0_15 vD0_16 vD0_17 vD0_18 ns9 m₁ h tk rest c c2 c3 t' a0 r0 a1 r1 a2 r2 → ∀ x0 x1 x2 x3 x4 x5 x6 x7 x8 x9 x10 x11 x12 x13 x14 x15 x16 x17 x18 x19 x20 x21 x22 x23 x24 x25 x26 x27 x28 x29 x30 x31 x32 x33, Pf.L0.zb.Z.2.2.2.1 x0 x1 x2 x3 x4 x5 x6 x7 x8 x9 x10 x11 x12 x13 x14 x15 x16 x17 x18 x19 x20 x21 x22 x23 x24 x25 x26 x27 x28 x29 x30 x31 x32 x33 := by
  delta vD0_0 vD0_1 vD0_2 vD0_3 ys vD0_5 vD0_6 vD0_7 vD0_8 vD0_9 vD0_10 vD0_11 vD0_12 vD0_13 vD0_14 vD0_15 vD0_16 vD0_17 vD0_18 ns9 m₁ h tk rest c c2 c3 t' a0 r0 a1 r1 a2 r2
  exact fun h x0 x1 x2 x3 x4 x5 x6 x7 x8 x9 x10 x11 x12 x13 x14 x15 x16 x17 x18 x19 x20 x21 x22 x23 x24 x25 x26 x27 x28 x29 x30 x31 x32 x33 => all_eps (P := fun t => Pf.L0.zb.Z.2.2.2.1 t.1 t.2.1 t.2.2.1 t.2.2.2.1 t.2.2.2.2.1 t.2.2.2.2.2.1 t.2.2.2.2.2.2.1 t.2.2.2.2.2.2.2.1 t.2.2.2.2.2.2.2.2.1 t.2.2.2.2.2.2.2.2.2.1 t.2.2.2.2.2.2.2.2.2.2.1 t.2.2.2.2.2.2.2.2.2.2.2.1 t.2.2.2.2.2.2.2.2.2.2.2.2.1 t.2.2.2.2.2.2.2.2.2.2.2.2.2.1 t.2.2.2.2.2.2.2.2.2.2.2.2.2.2.1 t.2.2.2.2.2.2.2.2.2.2.2.2.2.2.2.1 t.2.2.2.2.2.2.2.2.2.2.2.2.2.2.2.2.1 t.2.2.2.2.2.2.2.2.2.2.2.2.2.2.2.2.2.1 t.2.2.2.2.2.2.2.2.2.2.2.2.2.2.2.2.2.2.1 t.2.2.2.2.2.2.2.2.2.2.2.2.2.2.2.2.2.2.2.1 t.2.2.2.2.2.2.2.2.2.2.2.2.2.2.2.2.2.2.2.2.1 t.2.2.2.2.2.2.2.2.2.2.2.2.2.2.2.2.2.2.2.2.2.1 t.2.2.2.2.2.2.2.2.2.2.2.2.2.2.2.2.2.2.2.2.2.2.1 t.2.2.2.2.2.2.2.2.2.2.2.2.2.2.2.2.2.2.2.2.2.2.2.1 t.2.2.2.2.2.2.2.2.2.2.2.2.2.2.2.2.2.2.2.2.2.2.2.2.1 t.2.2.2.2.2.2.2.2.2.2.2.2.2.2.2.2.2.2.2.2.2.2.2.2.2.1 t.2.2.2.2.2.2.2.2.2.2.2.2.2.2.2.2.2.2.2.2.2.2.2.2.2.2.1 t.2.2.2.2.2.2.2.2.2.2.2.2.2.2.2.2.2.2.2.2.2.2.2.2.2.2.2.1 t.2.2.2.2.2.2.2.2.2.2.2.2.2.2.2.2.2.2.2.2.2.2.2.2.2.2.2.2.1 t.2.2.2.2.2.2.2.2.2.2.2.2.2.2.2.2.2.2.2.2.2.2.2.2.2.2.2.2.2.1 t.2.2.2.2.2.2.2.2.2.2.2.2.2.2.2.2.2.2.2.2.2.2.2.2.2.2.2.2.2.2.1 t.2.2.2.2.2.2.2.2.2.2.2.2.2.2.2.2.2.2.2.2.2.2.2.2.2.2.2.2.2.2.2.1 t.2.2.2.2.2.2.2.2.2.2.2.2.2.2.2.2.2.2.2.2.2.2.2.2.2.2.2.2.2.2.2.2.1 t.2.2.2.2.2.2.2.2.2.2.2.2.2.2.2.2.2.2.2.2.2.2.2.2.2.2.2.2.2.2.2.2.2) h (x0, x1, x2, x3, x4, x5, x6, x7, x8, x9, x10, x11, x12, x13, x14, x15, x16, x17, x18, x19, x20, x21, x22, x23, x24, x25, x26, x27, x28, x29, x30, x31, x32, x33)
set_option maxHeartbeats 12000000 in
noncomputable def zb.Z : (P1 : PySem.Addr → PySem.Heap → Int → PySem.Tok → PySem.Tok → PySem.Heap → Nat → PySem.Addr → PySem.Heap → Nat → PySem.Heap → Nat → PySem.Addr → PySem.Heap → Nat → PySem.Tok → PySem.Tok → PySem.Tok → PySem.Addr → PySem.Addr → PySem.Addr → (List PySem.Value) → PySem.Tok → PySem.Heap → Nat → PySem.Heap → Nat → PySem.Addr → PySem.Heap → PySem.Obj → PySem.Addr → PySem.Addr → PySem.Tok → PySem.Heap → Nat → PySem.Heap → PySem.Addr → PySem.Heap → PySem.Heap → Pf.Led → Nat → (PySem.Str → Option PySem.Value) → PySem.Heap → Nat → PySem.Addr → PySem.Obj → (List (PySem.Addr × PySem.Obj)) → (List PySem.Value) → Nat → PySem.Addr → (List Int) → (List PySem.Value) → Nat → Prop) ×' (P2 : PySem.Addr → PySem.Heap → Int → PySem.Tok → PySem.Tok → PySem.Heap → Nat → PySem.Addr → PySem.Heap → Nat → PySem.Heap → Nat → PySem.Addr → PySem.Heap → Nat → PySem.Tok → PySem.Tok → PySem.Tok → PySem.Addr → PySem.Addr → PySem.Addr → (List PySem.Value) → PySem.Tok → PySem.Heap → Nat → PySem.Heap → Nat → PySem.Addr → PySem.Heap → PySem.Obj → PySem.Addr → PySem.Addr → PySem.Tok → PySem.Heap → Nat → PySem.Heap → PySem.Addr → PySem.Heap → PySem.Heap → Pf.Led → (PySem.Str → Option PySem.Value) → PySem.Heap → Nat → (List (PySem.Addr × PySem.Obj)) → (List PySem.Value) → Nat → Prop) ×' ((∀ x0 x1 x2 x3 x4 x5 x6 x7 x8 x9 x10 x11 x12 x13 x14 x15 x16 x17 x18 x19 x20 x21 x22 x23 x24 x25 x26 x27 x28 x29 x30 x31 x32 x33 x34 x35 x36 x37 x38 x39 x40 x41 x42 x43 x44 x45 x46 x47 x48 x49 x50 x51 x52, P1 x0 x1 x2 x3 x4 x5 x6 x7 x8 x9 x10 x11 x12 x13 x14 x15 x16 x17 x18 x19 x20 x21 x22 x23 x24 x25 x26 x27 x28 x29 x30 x31 x32 x33 x34 x35 x36 x37 x38 x39 x40 x41 x42 x43 x44 x45 x46 x47 x48 x49 x50 x51 x52) → (∀ x0 x1 x2 x3 x4 x5 x6 x7 x8 x9 x10 x11 x12 x13 x14 x15 x16 x17 x18 x19 x20 x21 x22 x23 x24 x25 x26 x27 x28 x29 x30 x31 x32 x33 x34 x35 x36 x37 x38 x39 x40 x41 x42 x43 x44 x45, P2 x0 x1 x2 x3 x4 x5 x6 x7 x8 x9 x10 x11 x12 x13 x14 x15 x16 x17 x18 x19 x20 x21 x22 x23 x24 x25 x26 x27 x28 x29 x30 x31 x32 x33 x34 x35 x36 x37 x38 x39 x40 x41 x42 x43 x44 x45) → (Pf.L0.zb.Z.2.2.2.1 vD0_0 vD0_1 vD0_2 vD0_3 ys vD0_5 vD0_6 vD0_7 vD0_8 vD0_9 vD0_10 vD0_11 vD0_12 vD0_13 vD0_14 vD0_15 vD0_16 vD0_17 vD0_18 ns9 m₁ h tk rest c c2 c3 t' a0 r0 a1 r1 a2 r2)) := by
  apply PSigma.mk; apply PSigma.mk
  focus
    intro Hcut1 Hcut2
    intro G Y ho hg KX X V GL T B TE TW M hcd _ _ _ _ _ _ _ _ _ _ _ _ _ K0 hD hqk _ _ _ _ _ _ _ _ _ _ _ _ _ _ _ _ _ hI10 hL10 F₁ hm N₁ j1 j2 j3 j4 j5 j6 j7
    have hfill : (PySem.Challenge.rw_pf0148_01, hd.heap_39) = (PySem.Challenge.rw_pf0148_01, hd.heap_39) := rfl
    revert hfill
    k_fill
    intro hfill; clear hfill
    (k_steps; (all_goals (try ((with_reducible refine unheld ?_); (first | fin_once hold walk1 | fail); (try k_steps)))); (all_goals (try ((with_reducible refine unheld ?_); (first | (refine' con_use1 ?k1_378 ?k2_378 ?k3_378 ?k4_378 ?k5_378 ?kK_378 ?kd_378 ?ku_378 ?q1_378 (c_draw _ _ _ _ _ _ _ _ _ 0 _ _ _ _ _ _ ?n1_378 ?m1_378 ?a1_378 ?a2_378 ?l2_378 ?l3_378 ?l4_378) ?_; (case k1_378 => k_asm); (case k2_378 => k_asm); (case k3_378 => k_asm); (case k4_378 => k_asm); (case k5_378 => k_asm); (case kK_378 => first | exact rfl | assumption); (case q1_378 => (walk_at "PICK")); (case n1_378 => k_all); (case m1_378 => k_mem); (case a1_378 => assumption); (case a2_378 => assumption); (case l2_378 => omega); (case l3_378 => omega); (case l4_378 => omega); (case kd_378 => ktr_room); (case ku_378 => ktr_units); k_whole;  intro z9z t9z t8z y9z y8z h9z tk9z F9z N9z; (try dsimp only); (try k_fold)) | fin_once hold walk1 | fail); (try k_steps)))); (all_goals (try ((with_reducible refine unheld ?_); (first | (k_here; (with_reducible show wpAny _ _ (call (Value.type _) [_, _]) _ _ _); k_dflt (refine' rng_in ?k1_379 ?k2_379 ?_; (case k1_379 => k_asm); (case k2_379 => k_asm)); intro d9z h9z tk9z t9z u9z v9z F9z N9z l9z; (try dsimp only)) | fin_once hold walk1 | fail); (try k_steps)))); (all_goals (try ((with_reducible refine unheld ?_); (first | (refine' con_use ?k1_380 ?k2_380 ?k3_380 ?k4_380 ?k5_380 ?kK_380 ?kd_380 ?ku_380 (c_cov _ _ _ _ _ _ _ _ _ ?m1_380) ?_; (case k1_380 => k_asm); (case k2_380 => k_asm); (case k3_380 => k_asm); (case k4_380 => k_asm); (case k5_380 => k_asm); (case kK_380 => first | exact rfl | assumption); (case m1_380 => k_mem); (case kd_380 => ktr_room); (case ku_380 => ktr_units); k_whole;  intro cov9z cd9z gt9z gvs9z t9z i9z u91z u92z u93z h9z tk9z F9z N9z; (try dsimp only); (try k_fold)) | fin_once hold walk1 | fail); (try k_steps)))); (all_goals (try ((with_reducible refine unheld ?_); (first | (refine' con_use ?k1_381 ?k2_381 ?k3_381 ?k4_381 ?k5_381 ?kK_381 ?kd_381 ?ku_381 (mk_class _ _ _ _ _ _ ) ?_; (case k1_381 => k_asm); (case k2_381 => k_asm); (case k3_381 => k_asm); (case k4_381 => k_asm); (case k5_381 => k_asm); (case kK_381 => first | exact rfl | assumption); (case kd_381 => ktr_room); (case ku_381 => ktr_units); k_whole;  intro x9z d9z t91z u91z u92z h9z tk9z F9z N9z; (try dsimp only); (try k_fold)) | fin_once hold walk1 | fail); (try k_steps)))); (all_goals (try ((with_reducible refine unheld ?_); (first | fin_once hold walk1 | fail); (try k_steps)))))
    unfold Blocked
    rename News _ _ _ (_ :: (_, instObj 717 _) :: _) => N₂
    obtain ⟨base, N₃, b1, b2, b3, b4, b5, b6, b7, b8⟩ : ∃ base, Mid _ _ _ _ _ _ _ _ _ c _ _ a0 a1 a2 r0 r1 r2 base :=
      ⟨_, N₂, by k_all, by k_mem, ⟨_, _, _, _, _, by k_mem, by k_mem, by k_mem, by assumption⟩, ⟨_, _, _, _, by k_mem, by k_mem, by k_mem, by assumption, by assumption⟩, j5.mono (by walk_at "SUB"), j6.mono (by walk_at "SUB"), j7.mono (by walk_at "SUB"), by k_mem⟩
    clear N₂
    refine' iter_lst (vs := [.ref a0, .ref a1, .ref a2]) (nn := c) (LL wW _ _ base [r0, r1, r2]) ?yh ?yl ?yF ?yN ?yj ?yt ?yd
    case yF => k_asm
    case yN => k_asm
    case yh => rfl
    case yl => exact List.mem_cons_of_mem _ b2
    case yj =>
      refine LL.start ?za
      case za => assumption
    case yt =>
      repeat (rename News _ _ _ _ => X; clear X)
      repeat (rename Fr _ _ _ _ => X; clear X)
      repeat (rename AllLt _ _ => X; clear X)
      repeat (rename _ < _ ∧ _ => X; clear X)
      repeat (rename (∀ (p : Addr × Obj), p ∈ _ → p.fst < _) => X; clear X)
      repeat (rename (∀ (p : Addr × Obj), p ∈ _ → p.fst ≠ _) => X; clear X)
      repeat (rename Obj.IsDictOf _ _ _ => X; clear X)
      repeat (rename PyProof.V.FlatPairs _ _ _ => X; clear X)
      intro i v m₂ news₁ h tk I oI hv ho hl₁ hJ F₁ N₁
      obtain ⟨hm2, rest2, ks, c', rfl, s1, s2, s3⟩ := hJ
      rw [hm2.eq] at F₁
      obtain ⟨ar, row, rfl, hrow, ⟨vsr, cr, hvr, hir⟩, hlr⟩ := rows_get hv b5 b6 b7
      have hvr2 := s1 _ hvr
      have hcov2 := b3.mono s1
      have hnon2 := b4.mono s1
      dsimp only
      (walk_at "CUT"; exact fun x0 x1 x2 x3 x4 x5 x6 x7 x8 x9 x10 x11 x12 x13 x14 x15 x16 x17 x18 x19 x20 x21 x22 x23 x24 x25 x26 x27 x28 x29 x30 x31 x32 x33 x34 x35 x36 x37 x38 x39 x40 x41 x42 x43 x44 x45 x46 x47 x48 x49 x50 x51 x52 Hcut1 Hcut2 => Hcut1 x0 x1 x2 x3 x4 x5 x6 x7 x8 x9 x10 x11 x12 x13 x14 x15 x16 x17 x18 x19 x20 x21 x22 x23 x24 x25 x26 x27 x28 x29 x30 x31 x32 x33 x34 x35 x36 x37 x38 x39 x40 x41 x42 x43 x44 x45 x46 x47 x48 x49 x50 x51 x52)
    case yd =>
      repeat (rename News _ _ _ _ => X; clear X)
      repeat (rename Fr _ _ _ _ => X; clear X)
      repeat (rename AllLt _ _ => X; clear X)
      repeat (rename _ < _ ∧ _ => X; clear X)
      repeat (rename (∀ (p : Addr × Obj), p ∈ _ → p.fst < _) => X; clear X)
      repeat (rename (∀ (p : Addr × Obj), p ∈ _ → p.fst ≠ _) => X; clear X)
      repeat (rename Obj.IsDictOf _ _ _ => X; clear X)
      repeat (rename PyProof.V.FlatPairs _ _ _ => X; clear X)
      intro m₃ news₃ h tk hJ F₁ N₁
      obtain ⟨hm3, rest3, ks, c', rfl, s1, s2, s3⟩ := hJ
      rw [hm3.eq] at F₁
      dsimp only
      (walk_at "CUT"; exact fun x0 x1 x2 x3 x4 x5 x6 x7 x8 x9 x10 x11 x12 x13 x14 x15 x16 x17 x18 x19 x20 x21 x22 x23 x24 x25 x26 x27 x28 x29 x30 x31 x32 x33 x34 x35 x36 x37 x38 x39 x40 x41 x42 x43 x44 x45 Hcut1 Hcut2 => Hcut2 x0 x1 x2 x3 x4 x5 x6 x7 x8 x9 x10 x11 x12 x13 x14 x15 x16 x17 x18 x19 x20 x21 x22 x23 x24 x25 x26 x27 x28 x29 x30 x31 x32 x33 x34 x35 x36 x37 x38 x39 x40 x41 x42 x43 x44 x45)
namespace Y0
noncomputable def zu : PySem.Addr × PySem.Heap × Int × PySem.Tok × PySem.Tok × PySem.Heap × Nat × PySem.Addr × PySem.Heap × Nat × PySem.Heap × Nat × PySem.Addr × PySem.Heap × Nat × PySem.Tok × PySem.Tok × PySem.Tok × PySem.Addr × PySem.Addr × PySem.Addr × (List PySem.Value) × PySem.Tok × PySem.Heap × Nat × PySem.Heap × Nat × PySem.Addr × PySem.Heap × PySem.Obj × PySem.Addr × PySem.Addr × PySem.Tok × PySem.Heap × Nat × PySem.Heap × PySem.Addr × PySem.Heap × PySem.Heap × Pf.Led × Nat × (PySem.Str → Option PySem.Value) × PySem.Heap × Nat × PySem.Addr × PySem.Obj × (List (PySem.Addr × PySem.Obj)) × (List PySem.Value) × Nat × PySem.Addr × (List Int) × (List PySem.Value) × Nat := eps (0, {}, 0, 0, 0, {}, 0, 0, {}, 0, {}, 0, 0, {}, 0, 0, 0, 0, 0, 0, 0, [], 0, {}, 0, {}, 0, 0, {}, { cls := .none, data := .fields #[] }, 0, 0, 0, {}, 0, {}, 0, {}, {}, [], 0, (fun _ => none), {}, 0, 0, { cls := .none, data := .fields #[] }, [], [], 0, 0, [], [], 0) fun t => Pf.L0.D0.zb.Z.1 t.1 t.2.1 t.2.2.1 t.2.2.2.1 t.2.2.2.2.1 t.2.2.2.2.2.1 t.2.2.2.2.2.2.1 t.2.2.2.2.2.2.2.1 t.2.2.2.2.2.2.2.2.1 t.2.2.2.2.2.2.2.2.2.1 t.2.2.2.2.2.2.2.2.2.2.1 t.2.2.2.2.2.2.2.2.2.2.2.1 t.2.2.2.2.2.2.2.2.2.2.2.2.1 t.2.2.2.2.2.2.2.2.2.2.2.2.2.1 t.2.2.2.2.2.2.2.2.2.2.2.2.2.2.1 t.2.2.2.2.2.2.2.2.2.2.2.2.2.2.2.1 t.2.2.2.2.2.2.2.2.2.2.2.2.2.2.2.2.1 t.2.2.2.2.2.2.2.2.2.2.2.2.2.2.2.2.2.1 t.2.2.2.2.2.2.2.2.2.2.2.2.2.2.2.2.2.2.1 t.2.2.2.2.2.2.2.2.2.2.2.2.2.2.2.2.2.2.2.1 t.2.2.2.2.2.2.2.2.2.2.2.2.2.2.2.2.2.2.2.2.1 t.2.2.2.2.2.2.2.2.2.2.2.2.2.2.2.2.2.2.2.2.2.1 t.2.2.2.2.2.2.2.2.2.2.2.2.2.2.2.2.2.2.2.2.2.2.1 t.2.2.2.2.2.2.2.2.2.2.2.2.2.2.2.2.2.2.2.2.2.2.2.1 t.2.2.2.2.2.2.2.2.2.2.2.2.2.2.2.2.2.2.2.2.2.2.2.2.1 t.2.2.2.2.2.2.2.2.2.2.2.2.2.2.2.2.2.2.2.2.2.2.2.2.2.1 t.2.2.2.2.2.2.2.2.2.2.2.2.2.2.2.2.2.2.2.2.2.2.2.2.2.2.1 t.2.2.2.2.2.2.2.2.2.2.2.2.2.2.2.2.2.2.2.2.2.2.2.2.2.2.2.1 t.2.2.2.2.2.2.2.2.2.2.2.2.2.2.2.2.2.2.2.2.2.2.2.2.2.2.2.2.1 t.2.2.2.2.2.2.2.2.2.2.2.2.2.2.2.2.2.2.2.2.2.2.2.2.2.2.2.2.2.1 t.2.2.2.2.2.2.2.2.2.2.2.2.2.2.2.2.2.2.2.2.2.2.2.2.2.2.2.2.2.2.1 t.2.2.2.2.2.2.2.2.2.2.2.2.2.2.2.2.2.2.2.2.2.2.2.2.2.2.2.2.2.2.2.1 t.2.2.2.2.2.2.2.2.2.2.2.2.2.2.2.2.2.2.2.2.2.2.2.2.2.2.2.2.2.2.2.2.1 t.2.2.2.2.2.2.2.2.2.2.2.2.2.2.2.2.2.2.2.2.2.2.2.2.2.2.2.2.2.2.2.2.2.1 t.2.2.2.2.2.2.2.2.2.2.2.2.2.2.2.2.2.2.2.2.2.2.2.2.2.2.2.2.2.2.2.2.2.2.1 t.2.2.2.2.2.2.2.2.2.2.2.2.2.2.2.2.2.2.2.2.2.2.2.2.2.2.2.2.2.2.2.2.2.2.2.1 t.2.2.2.2.2.2.2.2.2.2.2.2.2.2.2.2.2.2.2.2.2.2.2.2.2.2.2.2.2.2.2.2.2.2.2.2.1 t.2.2.2.2.2.2.2.2.2.2.2.2.2.2.2.2.2.2.2.2.2.2.2.2.2.2.2.2.2.2.2.2.2.2.2.2.2.1 t.2.2.2.2.2.2.2.2.2.2.2.2.2.2.2.2.2.2.2.2.2.2.2.2.2.2.2.2.2.2.2.2.2.2.2.2.2.2.1 t.2.2.2.2.2.2.2.2.2.2.2.2.2.2.2.2.2.2.2.2.2.2.2.2.2.2.2.2.2.2.2.2.2.2.2.2.2.2.2.1 t.2.2.2.2.2.2.2.2.2.2.2.2.2.2.2.2.2.2.2.2.2.2.2.2.2.2.2.2.2.2.2.2.2.2.2.2.2.2.2.2.1 t.2.2.2.2.2.2.2.2.2.2.2.2.2.2.2.2.2.2.2.2.2.2.2.2.2.2.2.2.2.2.2.2.2.2.2.2.2.2.2.2.2.1 t.2.2.2.2.2.2.2.2.2.2.2.2.2.2.2.2.2.2.2.2.2.2.2.2.2.2.2.2.2.2.2.2.2.2.2.2.2.2.2.2.2.2.1 t.2.2.2.2.2.2.2.2.2.2.2.2.2.2.2.2.2.2.2.2.2.2.2.2.2.2.2.2.2.2.2.2.2.2.2.2.2.2.2.2.2.2.2.1 t.2.2.2.2.2.2.2.2.2.2.2.2.2.2.2.2.2.2.2.2.2.2.2.2.2.2.2.2.2.2.2.2.2.2.2.2.2.2.2.2.2.2.2.2.1 t.2.2.2.2.2.2.2.2.2.2.2.2.2.2.2.2.2.2.2.2.2.2.2.2.2.2.2.2.2.2.2.2.2.2.2.2.2.2.2.2.2.2.2.2.2.1 t.2.2.2.2.2.2.2.2.2.2.2.2.2.2.2.2.2.2.2.2.2.2.2.2.2.2.2.2.2.2.2.2.2.2.2.2.2.2.2.2.2.2.2.2.2.2.1 t.2.2.2.2.2.2.2.2.2.2.2.2.2.2.2.2.2.2.2.2.2.2.2.2.2.2.2.2.2.2.2.2.2.2.2.2.2.2.2.2.2.2.2.2.2.2.2.1 t.2.2.2.2.2.2.2.2.2.2.2.2.2.2.2.2.2.2.2.2.2.2.2.2.2.2.2.2.2.2.2.2.2.2.2.2.2.2.2.2.2.2.2.2.2.2.2.2.1 t.2.2.2.2.2.2.2.2.2.2.2.2.2.2.2.2.2.2.2.2.2.2.2.2.2.2.2.2.2.2.2.2.2.2.2.2.2.2.2.2.2.2.2.2.2.2.2.2.2.1 t.2.2.2.2.2.2.2.2.2.2.2.2.2.2.2.2.2.2.2.2.2.2.2.2.2.2.2.2.2.2.2.2.2.2.2.2.2.2.2.2.2.2.2.2.2.2.2.2.2.2.1 t.2.2.2.2.2.2.2.2.2.2.2.2.2.2.2.2.2.2.2.2.2.2.2.2.2.2.2.2.2.2.2.2.2.2.2.2.2.2.2.2.2.2.2.2.2.2.2.2.2.2.2.1 t.2.2.2.2.2.2.2.2.2.2.2.2.2.2.2.2.2.2.2.2.2.2.2.2.2.2.2.2.2.2.2.2.2.2.2.2.2.2.2.2.2.2.2.2.2.2.2.2.2.2.2.2
@[irreducible] noncomputable def vY0_0 : PySem.Addr := zu.1
@[irreducible] noncomputable def vY0_1 : PySem.Heap := zu.2.1
@[irreducible] noncomputable def z9z : Int := zu.2.2.1
@[irreducible] noncomputable def vY0_3 : PySem.Tok := zu.2.2.2.1
@[irreducible] noncomputable def t8z : PySem.Tok := zu.2.2.2.2.1
@[irreducible] noncomputable def vY0_5 : PySem.Heap := zu.2.2.2.2.2.1
@[irreducible] noncomputable def vY0_6 : Nat := zu.2.2.2.2.2.2.1
@[irreducible] noncomputable def vY0_7 : PySem.Addr := zu.2.2.2.2.2.2.2.1
@[irreducible] noncomputable def vY0_8 : PySem.Heap := zu.2.2.2.2.2.2.2.2.1
@[irreducible] noncomputable def vY0_9 : Nat := zu.2.2.2.2.2.2.2.2.2.1
@[irreducible] noncomputable def vY0_10 : PySem.Heap := zu.2.2.2.2.2.2.2.2.2.2.1
@[irreducible] noncomputable def vY0_11 : Nat := zu.2.2.2.2.2.2.2.2.2.2.2.1
@[irreducible] noncomputable def vY0_12 : PySem.Addr := zu.2.2.2.2.2.2.2.2.2.2.2.2.1
@[irreducible] noncomputable def vY0_13 : PySem.Heap := zu.2.2.2.2.2.2.2.2.2.2.2.2.2.1
@[irreducible] noncomputable def vY0_14 : Nat := zu.2.2.2.2.2.2.2.2.2.2.2.2.2.2.1
@[irreducible] noncomputable def vY0_15 : PySem.Tok := zu.2.2.2.2.2.2.2.2.2.2.2.2.2.2.2.1
@[irreducible] noncomputable def u9z : PySem.Tok := zu.2.2.2.2.2.2.2.2.2.2.2.2.2.2.2.2.1
@[irreducible] noncomputable def v9z : PySem.Tok := zu.2.2.2.2.2.2.2.2.2.2.2.2.2.2.2.2.2.1
@[irreducible] noncomputable def cov9z : PySem.Addr := zu.2.2.2.2.2.2.2.2.2.2.2.2.2.2.2.2.2.2.1
@[irreducible] noncomputable def cd9z : PySem.Addr := zu.2.2.2.2.2.2.2.2.2.2.2.2.2.2.2.2.2.2.2.1
@[irreducible] noncomputable def gt9z : PySem.Addr := zu.2.2.2.2.2.2.2.2.2.2.2.2.2.2.2.2.2.2.2.2.1
@[irreducible] noncomputable def gvs9z : List PySem.Value := zu.2.2.2.2.2.2.2.2.2.2.2.2.2.2.2.2.2.2.2.2.2.1
@[irreducible] noncomputable def t9z : PySem.Tok := zu.2.2.2.2.2.2.2.2.2.2.2.2.2.2.2.2.2.2.2.2.2.2.1
@[irreducible] noncomputable def vY0_23 : PySem.Heap := zu.2.2.2.2.2.2.2.2.2.2.2.2.2.2.2.2.2.2.2.2.2.2.2.1
@[irreducible] noncomputable def vY0_24 : Nat := zu.2.2.2.2.2.2.2.2.2.2.2.2.2.2.2.2.2.2.2.2.2.2.2.2.1
@[irreducible] noncomputable def vY0_25 : PySem.Heap := zu.2.2.2.2.2.2.2.2.2.2.2.2.2.2.2.2.2.2.2.2.2.2.2.2.2.1
@[irreducible] noncomputable def vY0_26 : Nat := zu.2.2.2.2.2.2.2.2.2.2.2.2.2.2.2.2.2.2.2.2.2.2.2.2.2.2.1
@[irreducible] noncomputable def vY0_27 : PySem.Addr := zu.2.2.2.2.2.2.2.2.2.2.2.2.2.2.2.2.2.2.2.2.2.2.2.2.2.2.2.1
@[irreducible] noncomputable def vY0_28 : PySem.Heap := zu.2.2.2.2.2.2.2.2.2.2.2.2.2.2.2.2.2.2.2.2.2.2.2.2.2.2.2.2.1
@[irreducible] noncomputable def vY0_29 : PySem.Obj := zu.2.2.2.2.2.2.2.2.2.2.2.2.2.2.2.2.2.2.2.2.2.2.2.2.2.2.2.2.2.1
@[irreducible] noncomputable def x9z : PySem.Addr := zu.2.2.2.2.2.2.2.2.2.2.2.2.2.2.2.2.2.2.2.2.2.2.2.2.2.2.2.2.2.2.1
@[irreducible] noncomputable def d9z : PySem.Addr := zu.2.2.2.2.2.2.2.2.2.2.2.2.2.2.2.2.2.2.2.2.2.2.2.2.2.2.2.2.2.2.2.1
@[irreducible] noncomputable def t91z : PySem.Tok := zu.2.2.2.2.2.2.2.2.2.2.2.2.2.2.2.2.2.2.2.2.2.2.2.2.2.2.2.2.2.2.2.2.1
@[irreducible] noncomputable def h9z : PySem.Heap := zu.2.2.2.2.2.2.2.2.2.2.2.2.2.2.2.2.2.2.2.2.2.2.2.2.2.2.2.2.2.2.2.2.2.1
@[irreducible] noncomputable def tk9z : Nat := zu.2.2.2.2.2.2.2.2.2.2.2.2.2.2.2.2.2.2.2.2.2.2.2.2.2.2.2.2.2.2.2.2.2.2.1
@[irreducible] noncomputable def vY0_35 : PySem.Heap := zu.2.2.2.2.2.2.2.2.2.2.2.2.2.2.2.2.2.2.2.2.2.2.2.2.2.2.2.2.2.2.2.2.2.2.2.1
@[irreducible] noncomputable def vY0_36 : PySem.Addr := zu.2.2.2.2.2.2.2.2.2.2.2.2.2.2.2.2.2.2.2.2.2.2.2.2.2.2.2.2.2.2.2.2.2.2.2.2.1
@[irreducible] noncomputable def vY0_37 : PySem.Heap := zu.2.2.2.2.2.2.2.2.2.2.2.2.2.2.2.2.2.2.2.2.2.2.2.2.2.2.2.2.2.2.2.2.2.2.2.2.2.1
@[irreducible] noncomputable def vY0_38 : PySem.Heap := zu.2.2.2.2.2.2.2.2.2.2.2.2.2.2.2.2.2.2.2.2.2.2.2.2.2.2.2.2.2.2.2.2.2.2.2.2.2.2.1
@[irreducible] noncomputable def base : Pf.Led := zu.2.2.2.2.2.2.2.2.2.2.2.2.2.2.2.2.2.2.2.2.2.2.2.2.2.2.2.2.2.2.2.2.2.2.2.2.2.2.2.1
@[irreducible] noncomputable def i : Nat := zu.2.2.2.2.2.2.2.2.2.2.2.2.2.2.2.2.2.2.2.2.2.2.2.2.2.2.2.2.2.2.2.2.2.2.2.2.2.2.2.2.1
@[irreducible] noncomputable def m₂ : PySem.Str → Option PySem.Value := zu.2.2.2.2.2.2.2.2.2.2.2.2.2.2.2.2.2.2.2.2.2.2.2.2.2.2.2.2.2.2.2.2.2.2.2.2.2.2.2.2.2.1
@[irreducible] noncomputable def h : PySem.Heap := zu.2.2.2.2.2.2.2.2.2.2.2.2.2.2.2.2.2.2.2.2.2.2.2.2.2.2.2.2.2.2.2.2.2.2.2.2.2.2.2.2.2.2.1
@[irreducible] noncomputable def tk : Nat := zu.2.2.2.2.2.2.2.2.2.2.2.2.2.2.2.2.2.2.2.2.2.2.2.2.2.2.2.2.2.2.2.2.2.2.2.2.2.2.2.2.2.2.2.1
@[irreducible] noncomputable def I : PySem.Addr := zu.2.2.2.2.2.2.2.2.2.2.2.2.2.2.2.2.2.2.2.2.2.2.2.2.2.2.2.2.2.2.2.2.2.2.2.2.2.2.2.2.2.2.2.2.1
@[irreducible] noncomputable def oI : PySem.Obj := zu.2.2.2.2.2.2.2.2.2.2.2.2.2.2.2.2.2.2.2.2.2.2.2.2.2.2.2.2.2.2.2.2.2.2.2.2.2.2.2.2.2.2.2.2.2.1
@[irreducible] noncomputable def rest2 : List (PySem.Addr × PySem.Obj) := zu.2.2.2.2.2.2.2.2.2.2.2.2.2.2.2.2.2.2.2.2.2.2.2.2.2.2.2.2.2.2.2.2.2.2.2.2.2.2.2.2.2.2.2.2.2.2.1
@[irreducible] noncomputable def ks : List PySem.Value := zu.2.2.2.2.2.2.2.2.2.2.2.2.2.2.2.2.2.2.2.2.2.2.2.2.2.2.2.2.2.2.2.2.2.2.2.2.2.2.2.2.2.2.2.2.2.2.2.1
@[irreducible] noncomputable def c' : Nat := zu.2.2.2.2.2.2.2.2.2.2.2.2.2.2.2.2.2.2.2.2.2.2.2.2.2.2.2.2.2.2.2.2.2.2.2.2.2.2.2.2.2.2.2.2.2.2.2.2.1
@[irreducible] noncomputable def ar : PySem.Addr := zu.2.2.2.2.2.2.2.2.2.2.2.2.2.2.2.2.2.2.2.2.2.2.2.2.2.2.2.2.2.2.2.2.2.2.2.2.2.2.2.2.2.2.2.2.2.2.2.2.2.1
@[irreducible] noncomputable def row : List Int := zu.2.2.2.2.2.2.2.2.2.2.2.2.2.2.2.2.2.2.2.2.2.2.2.2.2.2.2.2.2.2.2.2.2.2.2.2.2.2.2.2.2.2.2.2.2.2.2.2.2.2.1
@[irreducible] noncomputable def vsr : List PySem.Value := zu.2.2.2.2.2.2.2.2.2.2.2.2.2.2.2.2.2.2.2.2.2.2.2.2.2.2.2.2.2.2.2.2.2.2.2.2.2.2.2.2.2.2.2.2.2.2.2.2.2.2.2.1
@[irreducible] noncomputable def cr : Nat := zu.2.2.2.2.2.2.2.2.2.2.2.2.2.2.2.2.2.2.2.2.2.2.2.2.2.2.2.2.2.2.2.2.2.2.2.2.2.2.2.2.2.2.2.2.2.2.2.2.2.2.2.2
theorem zk : Pf.L0.D0.zb.Z.1 vY0_0 vY0_1 z9z vY0_3 t8z vY0_5 vY0_6 vY0_7 vY0_8 vY0_9 vY0_10 vY0_11 vY0_12 vY0_13 vY0_14 vY0_15 u9z v9z cov9z cd9z gt9z gvs9z t9z vY0_23 vY0_24 vY0_25 vY0_26 vY0_27 vY0_28 vY0_29 x9z d9z t91z h9z tk9z vY0_35 vY0_36 vY0_37 vY0_38 base i m₂ h tk I oI rest2 ks c' ar row vsr cr → ∀ x0 x1 x2 x3 x4 x5 x6 x7 x8 x9 x10 x11 x12 x13 x14 x15 x16 x17 x18 x19 x20 x21 x22 x23 x24 x25 x26 x27 x28 x29 x30 x31 x32 x33 x34 x35 x36 x37 x38 x39 x40 x41 x42 x43 x44 x45 x46 x47 x48 x49 x50 x51 x52, Pf.L0.D0.zb.Z.1 x0 x1 x2 x3 x4 x5 x6 x7 x8 x9 x10 x11 x12 x13 x14 x15 x16 x17 x18 x19 x20 x21 x22 x23 x24 x25 x26 x27 x28 x29 x30 x31 x32 x33 x34 x35 x36 x37 x38 x39 x40 x41 x42 x43 x44 x45 x46 x47 x48 x49 x50 x51 x52 := by
  delta vY0_0 vY0_1 z9z vY0_3 t8z vY0_5 vY0_6 vY0_7 vY0_8 vY0_9 vY0_10 vY0_11 vY0_12 vY0_13 vY0_14 vY0_15 u9z v9z cov9z cd9z gt9z gvs9z t9z vY0_23 vY0_24 vY0_25 vY0_26 vY0_27 vY0_28 vY0_29 x9z d9z t91z h9z tk9z vY0_35 vY0_36 vY0_37 vY0_38 base i m₂ h tk I oI rest2 ks c' ar row vsr cr
  exact fun h x0 x1 x2 x3 x4 x5 x6 x7 x8 x9 x10 x11 x12 x13 x14 x15 x16 x17 x18 x19 x20 x21 x22 x23 x24 x25 x26 x27 x28 x29 x30 x31 x32 x33 x34 x35 x36 x37 x38 x39 x40 x41 x42 x43 x44 x45 x46 x47 x48 x49 x50 x51 x52 => all_eps (P := fun t => Pf.L0.D0.zb.Z.1 t.1 t.2.1 t.2.2.1 t.2.2.2.1 t.2.2.2.2.1 t.2.2.2.2.2.1 t.2.2.2.2.2.2.1 t.2.2.2.2.2.2.2.1 t.2.2.2.2.2.2.2.2.1 t.2.2.2.2.2.2.2.2.2.1 t.2.2.2.2.2.2.2.2.2.2.1 t.2.2.2.2.2.2.2.2.2.2.2.1 t.2.2.2.2.2.2.2.2.2.2.2.2.1 t.2.2.2.2.2.2.2.2.2.2.2.2.2.1 t.2.2.2.2.2.2.2.2.2.2.2.2.2.2.1 t.2.2.2.2.2.2.2.2.2.2.2.2.2.2.2.1 t.2.2.2.2.2.2.2.2.2.2.2.2.2.2.2.2.1 t.2.2.2.2.2.2.2.2.2.2.2.2.2.2.2.2.2.1 t.2.2.2.2.2.2.2.2.2.2.2.2.2.2.2.2.2.2.1 t.2.2.2.2.2.2.2.2.2.2.2.2.2.2.2.2.2.2.2.1 t.2.2.2.2.2.2.2.2.2.2.2.2.2.2.2.2.2.2.2.2.1 t.2.2.2.2.2.2.2.2.2.2.2.2.2.2.2.2.2.2.2.2.2.1 t.2.2.2.2.2.2.2.2.2.2.2.2.2.2.2.2.2.2.2.2.2.2.1 t.2.2.2.2.2.2.2.2.2.2.2.2.2.2.2.2.2.2.2.2.2.2.2.1 t.2.2.2.2.2.2.2.2.2.2.2.2.2.2.2.2.2.2.2.2.2.2.2.2.1 t.2.2.2.2.2.2.2.2.2.2.2.2.2.2.2.2.2.2.2.2.2.2.2.2.2.1 t.2.2.2.2.2.2.2.2.2.2.2.2.2.2.2.2.2.2.2.2.2.2.2.2.2.2.1 t.2.2.2.2.2.2.2.2.2.2.2.2.2.2.2.2.2.2.2.2.2.2.2.2.2.2.2.1 t.2.2.2.2.2.2.2.2.2.2.2.2.2.2.2.2.2.2.2.2.2.2.2.2.2.2.2.2.1 t.2.2.2.2.2.2.2.2.2.2.2.2.2.2.2.2.2.2.2.2.2.2.2.2.2.2.2.2.2.1 t.2.2.2.2.2.2.2.2.2.2.2.2.2.2.2.2.2.2.2.2.2.2.2.2.2.2.2.2.2.2.1 t.2.2.2.2.2.2.2.2.2.2.2.2.2.2.2.2.2.2.2.2.2.2.2.2.2.2.2.2.2.2.2.1 t.2.2.2.2.2.2.2.2.2.2.2.2.2.2.2.2.2.2.2.2.2.2.2.2.2.2.2.2.2.2.2.2.1 t.2.2.2.2.2.2.2.2.2.2.2.2.2.2.2.2.2.2.2.2.2.2.2.2.2.2.2.2.2.2.2.2.2.1 t.2.2.2.2.2.2.2.2.2.2.2.2.2.2.2.2.2.2.2.2.2.2.2.2.2.2.2.2.2.2.2.2.2.2.1 t.2.2.2.2.2.2.2.2.2.2.2.2.2.2.2.2.2.2.2.2.2.2.2.2.2.2.2.2.2.2.2.2.2.2.2.1 t.2.2.2.2.2.2.2.2.2.2.2.2.2.2.2.2.2.2.2.2.2.2.2.2.2.2.2.2.2.2.2.2.2.2.2.2.1 t.2.2.2.2.2.2.2.2.2.2.2.2.2.2.2.2.2.2.2.2.2.2.2.2.2.2.2.2.2.2.2.2.2.2.2.2.2.1 t.2.2.2.2.2.2.2.2.2.2.2.2.2.2.2.2.2.2.2.2.2.2.2.2.2.2.2.2.2.2.2.2.2.2.2.2.2.2.1 t.2.2.2.2.2.2.2.2.2.2.2.2.2.2.2.2.2.2.2.2.2.2.2.2.2.2.2.2.2.2.2.2.2.2.2.2.2.2.2.1 t.2.2.2.2.2.2.2.2.2.2.2.2.2.2.2.2.2.2.2.2.2.2.2.2.2.2.2.2.2.2.2.2.2.2.2.2.2.2.2.2.1 t.2.2.2.2.2.2.2.2.2.2.2.2.2.2.2.2.2.2.2.2.2.2.2.2.2.2.2.2.2.2.2.2.2.2.2.2.2.2.2.2.2.1 t.2.2.2.2.2.2.2.2.2.2.2.2.2.2.2.2.2.2.2.2.2.2.2.2.2.2.2.2.2.2.2.2.2.2.2.2.2.2.2.2.2.2.1 t.2.2.2.2.2.2.2.2.2.2.2.2.2.2.2.2.2.2.2.2.2.2.2.2.2.2.2.2.2.2.2.2.2.2.2.2.2.2.2.2.2.2.2.1 t.2.2.2.2.2.2.2.2.2.2.2.2.2.2.2.2.2.2.2.2.2.2.2.2.2.2.2.2.2.2.2.2.2.2.2.2.2.2.2.2.2.2.2.2.1 t.2.2.2.2.2.2.2.2.2.2.2.2.2.2.2.2.2.2.2.2.2.2.2.2.2.2.2.2.2.2.2.2.2.2.2.2.2.2.2.2.2.2.2.2.2.1 t.2.2.2.2.2.2.2.2.2.2.2.2.2.2.2.2.2.2.2.2.2.2.2.2.2.2.2.2.2.2.2.2.2.2.2.2.2.2.2.2.2.2.2.2.2.2.1 t.2.2.2.2.2.2.2.2.2.2.2.2.2.2.2.2.2.2.2.2.2.2.2.2.2.2.2.2.2.2.2.2.2.2.2.2.2.2.2.2.2.2.2.2.2.2.2.1 t.2.2.2.2.2.2.2.2.2.2.2.2.2.2.2.2.2.2.2.2.2.2.2.2.2.2.2.2.2.2.2.2.2.2.2.2.2.2.2.2.2.2.2.2.2.2.2.2.1 t.2.2.2.2.2.2.2.2.2.2.2.2.2.2.2.2.2.2.2.2.2.2.2.2.2.2.2.2.2.2.2.2.2.2.2.2.2.2.2.2.2.2.2.2.2.2.2.2.2.1 t.2.2.2.2.2.2.2.2.2.2.2.2.2.2.2.2.2.2.2.2.2.2.2.2.2.2.2.2.2.2.2.2.2.2.2.2.2.2.2.2.2.2.2.2.2.2.2.2.2.2.1 t.2.2.2.2.2.2.2.2.2.2.2.2.2.2.2.2.2.2.2.2.2.2.2.2.2.2.2.2.2.2.2.2.2.2.2.2.2.2.2.2.2.2.2.2.2.2.2.2.2.2.2.1 t.2.2.2.2.2.2.2.2.2.2.2.2.2.2.2.2.2.2.2.2.2.2.2.2.2.2.2.2.2.2.2.2.2.2.2.2.2.2.2.2.2.2.2.2.2.2.2.2.2.2.2.2) h (x0, x1, x2, x3, x4, x5, x6, x7, x8, x9, x10, x11, x12, x13, x14, x15, x16, x17, x18, x19, x20, x21, x22, x23, x24, x25, x26, x27, x28, x29, x30, x31, x32, x33, x34, x35, x36, x37, x38, x39, x40, x41, x42, x43, x44, x45, x46, x47, x48, x49, x50, x51, x52)
set_option maxHeartbeats 12000000 in
noncomputable def zb.Z : (P1 : PySem.Addr → PySem.Heap → PySem.Addr → PySem.Heap → PySem.Addr → PySem.Heap → PySem.Heap → (List PySem.Value) → (List (PySem.Addr × PySem.Obj)) → Prop) ×' ((∀ x0 x1 x2 x3 x4 x5 x6 x7 x8, P1 x0 x1 x2 x3 x4 x5 x6 x7 x8) → (Pf.L0.D0.zb.Z.1 vY0_0 vY0_1 z9z vY0_3 t8z vY0_5 vY0_6 vY0_7 vY0_8 vY0_9 vY0_10 vY0_11 vY0_12 vY0_13 vY0_14 vY0_15 u9z v9z cov9z cd9z gt9z gvs9z t9z vY0_23 vY0_24 vY0_25 vY0_26 vY0_27 vY0_28 vY0_29 x9z d9z t91z h9z tk9z vY0_35 vY0_36 vY0_37 vY0_38 base i m₂ h tk I oI rest2 ks c' ar row vsr cr)) := by
  apply PSigma.mk
  focus
    intro Hcut1
    intro G Y ho hg KX X V GL T B TE TW M hcd _ _ _ _ _ _ _ _ _ _ _ _ _ K0 hD hqk _ _ _ _ _ _ _ _ _ _ hI10 hL10 hm j1 j4 j5 j6 j7 y9z y8z _ _ _ _ _ i9z _ b2 b3 b4 b5 b6 b7 b8 hm2 ho hl₁ N₁ s1 s2 s3 hv F₁ hrow hlr hvr hir hvr2 hcov2 hnon2
    have hfill : (PySem.Challenge.rw_pf0148_01, hd.heap_39) = (PySem.Challenge.rw_pf0148_01, hd.heap_39) := rfl
    revert hfill
    k_fill
    intro hfill; clear hfill
    (k_steps; (all_goals (try ((with_reducible refine unheld ?_); (first | (k_here; (first | (with_reducible show wpAny _ _ (newTuple []) _ _ _) | (with_reducible show wpAny _ _ (newTuple [Value.int _ _]) _ _ _) | (with_reducible show wpAny _ _ (newTuple [Value.int _ _, Value.int _ _]) _ _ _) | (with_reducible show wpAny _ _ (newTuple [Value.ref _, Value.ref _, Value.ref _]) _ _ _)); k_dflt (refine' tup_in ?k1_382 ?k2_382 ?k3_382 ?_; (case k1_382 => k_asm); (case k2_382 => k_asm); (case k3_382 => (exact Nat.le_of_ble_eq_true rfl))); intro D9z h9z F9z N9z u9z) | fin_once hold walk1 | fail); (try k_steps)))); (all_goals (try ((with_reducible refine unheld ?_); (first | (k_here; (first | (with_reducible show wpAny _ _ (newTuple []) _ _ _) | (with_reducible show wpAny _ _ (newTuple [Value.int _ _]) _ _ _) | (with_reducible show wpAny _ _ (newTuple [Value.int _ _, Value.int _ _]) _ _ _) | (with_reducible show wpAny _ _ (newTuple [Value.ref _, Value.ref _, Value.ref _]) _ _ _)); k_dflt (refine' tup_in ?k1_383 ?k2_383 ?k3_383 ?_; (case k1_383 => k_asm); (case k2_383 => k_asm); (case k3_383 => (exact Nat.le_of_ble_eq_true rfl))); intro D9z h9z F9z N9z u9z) | fin_once hold walk1 | fail); (try k_steps)))); (all_goals (try ((with_reducible refine unheld ?_); (first | (k_here; (first | (with_reducible show wpAny _ _ (newTuple []) _ _ _) | (with_reducible show wpAny _ _ (newTuple [Value.int _ _]) _ _ _) | (with_reducible show wpAny _ _ (newTuple [Value.int _ _, Value.int _ _]) _ _ _) | (with_reducible show wpAny _ _ (newTuple [Value.ref _, Value.ref _, Value.ref _]) _ _ _)); k_dflt (refine' tup_in ?k1_384 ?k2_384 ?k3_384 ?_; (case k1_384 => k_asm); (case k2_384 => k_asm); (case k3_384 => (exact Nat.le_of_ble_eq_true rfl))); intro D9z h9z F9z N9z u9z) | fin_once hold walk1 | fail); (try k_steps)))))
    unfold Blocked
    refine LCg.CompSrc.ledger rfl (by k_asm) (by k_asm) (by k_mem) ?ysz ?yg
    case ysz =>
      rw [List.size_toArray, hir.length, sizeLine_eq]
      exact Nat.le_trans hlr (by decide)
    intro g2
    refine' comp_ind _ (CA _ _ _ _ _ row rest2) ?c1 ?c2 ?c3
    case c1 =>
      refine CA.start ?c11 ?c12 ?c13 ?c14 ?c15
      all_goals (try dsimp only)
      case c11 => exact sub_all (by with_reducible assumption) (by walk_at "SUB")
      case c12 => exact sub_all (by with_reducible assumption) (by walk_at "SUB")
      case c13 => exact sub_all (by with_reducible assumption) (by walk_at "SUB")
      case c14 => exact fun p hp => ho p (.tail _ hp)
      case c15 => exact s2
    case c2 =>
      intro i ys nx v I' oI' C' oC' D' m₂ h tk E' hi hJ hv hC hx F N off ne
      obtain ⟨nr, rfl, t1, t2, t3, t4, t5, t6, t7⟩ := hJ
      obtain ⟨g, tg, rfl, hg⟩ := ints_get hir (by simpa using hv)
      obtain ⟨ne1, ne2, ne3⟩ := ne
      (k_steps; (all_goals (try ((with_reducible refine unheld ?_); (first | (k_here; (first | (with_reducible show wpAny _ _ (newTuple []) _ _ _) | (with_reducible show wpAny _ _ (newTuple [Value.int _ _]) _ _ _) | (with_reducible show wpAny _ _ (newTuple [Value.int _ _, Value.int _ _]) _ _ _) | (with_reducible show wpAny _ _ (newTuple [Value.ref _, Value.ref _, Value.ref _]) _ _ _)); k_dflt (refine' tup_in ?k1_385 ?k2_385 ?k3_385 ?_; (case k1_385 => k_asm); (case k2_385 => k_asm); (case k3_385 => (exact Nat.le_of_ble_eq_true rfl))); intro D9z h9z F9z N9z u9z) | fin_once hold walk1 | fail); (try k_steps)))))
      unfold Blocked
      exact CA.turn hg hvr2 t1 t2 t3 t4 t5 t6 t7 off (by k_asm) (by k_asm) (by with_reducible assumption)
    case c3 =>
      intro ys nx hJ
      obtain ⟨nr, rfl, t1, t2, t3, t4, t5, t6, t7⟩ := hJ
      rw [List.size_toArray, hir.length, List.take_length] at t7
      have hys : ys.length ≤ 100 := by rw [t7.length]; exact hlr
      have hks : ks.length ≤ 100 := by rw [s3.length]; exact Nat.le_trans (List.length_take_le' ..) (by show 3 ≤ 100; omega)
      (walk_at "CUT"; exact fun x0 x1 x2 x3 x4 x5 x6 x7 x8 Hcut1 => Hcut1 x0 x1 x2 x3 x4 x5 x6 x7 x8)
namespace Y1
noncomputable def zu : PySem.Addr × PySem.Heap × PySem.Addr × PySem.Heap × PySem.Addr × PySem.Heap × PySem.Heap × (List PySem.Value) × (List (PySem.Addr × PySem.Obj)) := eps (0, {}, 0, {}, 0, {}, {}, [], []) fun t => Pf.L0.D0.Y0.zb.Z.1 t.1 t.2.1 t.2.2.1 t.2.2.2.1 t.2.2.2.2.1 t.2.2.2.2.2.1 t.2.2.2.2.2.2.1 t.2.2.2.2.2.2.2.1 t.2.2.2.2.2.2.2.2
@[irreducible] noncomputable def vY1_0 : PySem.Addr := zu.1
@[irreducible] noncomputable def vY1_1 : PySem.Heap := zu.2.1
@[irreducible] noncomputable def vY1_2 : PySem.Addr := zu.2.2.1
@[irreducible] noncomputable def vY1_3 : PySem.Heap := zu.2.2.2.1
@[irreducible] noncomputable def D9z : PySem.Addr := zu.2.2.2.2.1
@[irreducible] noncomputable def h9z : PySem.Heap := zu.2.2.2.2.2.1
@[irreducible] noncomputable def g2 : PySem.Heap := zu.2.2.2.2.2.2.1
@[irreducible] noncomputable def ys : List PySem.Value := zu.2.2.2.2.2.2.2.1
@[irreducible] noncomputable def nr : List (PySem.Addr × PySem.Obj) := zu.2.2.2.2.2.2.2.2
theorem zk : Pf.L0.D0.Y0.zb.Z.1 vY1_0 vY1_1 vY1_2 vY1_3 D9z h9z g2 ys nr → ∀ x0 x1 x2 x3 x4 x5 x6 x7 x8, Pf.L0.D0.Y0.zb.Z.1 x0 x1 x2 x3 x4 x5 x6 x7 x8 := by
  delta vY1_0 vY1_1 vY1_2 vY1_3 D9z h9z g2 ys nr
  exact fun h x0 x1 x2 x3 x4 x5 x6 x7 x8 => all_eps (P := fun t => Pf.L0.D0.Y0.zb.Z.1 t.1 t.2.1 t.2.2.1 t.2.2.2.1 t.2.2.2.2.1 t.2.2.2.2.2.1 t.2.2.2.2.2.2.1 t.2.2.2.2.2.2.2.1 t.2.2.2.2.2.2.2.2) h (x0, x1, x2, x3, x4, x5, x6, x7, x8)
set_option maxHeartbeats 12000000 in
theorem zb : Pf.L0.D0.Y0.zb.Z.1 vY1_0 vY1_1 vY1_2 vY1_3 D9z h9z g2 ys nr := by
  intro G Y ho hg KX X V GL T B TE TW M hcd _ _ _ _ _ _ _ _ _ _ _ _ _ K0 hD hqk _ _ _ _ _ _ _ _ _ _ hI10 hL10 hm j1 j4 j5 j6 j7 y9z y8z _ _ _ _ _ i9z _ b2 b3 b4 b5 b6 b7 b8 hm2 ho hl₁ N₁ s1 s2 s3 hv F₁ hrow hlr hvr hir hvr2 hcov2 hnon2 F9z N9z u9z F9z N9z u9z F9z N9z u9z t1 t2 t3 t4 t5 t6 t7 hys hks
  have hfill : (PySem.Challenge.rw_pf0148_01, hd.heap_39) = (PySem.Challenge.rw_pf0148_01, hd.heap_39) := rfl
  revert hfill
  k_fill
  intro hfill; clear hfill
  (k_steps; (all_goals (try ((with_reducible refine unheld ?_); (first | (k_here; (with_reducible show wpAny _ _ (call (Value.type _) [Value.ref _]) _ _ _); k_dflt (refine' tup_of ?k1_386 ?k2_386 ?k3_386 ?k4_386 ?_; (case k1_386 => k_asm); (case k2_386 => k_asm); (case k3_386 => k_mem); (case k4_386 => first | assumption | exact Nat.le_trans (by with_reducible assumption) (by decide : 100 ≤ 300))); intro D9z h9z F9z N9z u9z) | fin_once hold walk1 | fail); (try k_steps)))); (all_goals (try ((with_reducible refine unheld ?_); (first | (refine' con_use ?k1_387 ?k2_387 ?k3_387 ?k4_387 ?k5_387 ?kK_387 ?kd_387 ?ku_387 (mk_rule _ _ _ _ _ _ _ _ _ ) ?_; (case k1_387 => k_asm); (case k2_387 => k_asm); (case k3_387 => k_asm); (case k4_387 => k_asm); (case k5_387 => k_asm); (case kK_387 => first | exact rfl | assumption); (case kd_387 => ktr_room); (case ku_387 => ktr_units); k_whole;  intro x9z d9z TT9z u91z u92z h9z tk9z F9z N9z; (try dsimp only); (try k_fold)) | fin_once hold walk1 | fail); (try k_steps)))); (all_goals (try ((with_reducible refine unheld ?_); (first | (k_here; kdn_look; k_dflt (refine' kdn_int ?q_388 ?F_388 ?N_388 ?b_388 ?a_388 ?l_388 ?e_388 ?n_388 ?_; (case q_388 => rfl); (case F_388 => k_asm); (case N_388 => k_asm); (case b_388 => exact Top.nolimit (by k_asm)); (case a_388 => rfl); (case l_388 => rfl); (case e_388 => exact List.cons_ne_nil _ _); (case n_388 => exact Nat.le_of_ble_eq_true rfl)); intro d'z h'z o'z F'z N'z l1z lo'z hd'z; (replace l1z := ltA_ne l1z)) | fin_once hold walk1 | fail); (try k_steps)))); (all_goals (try ((with_reducible refine unheld ?_); (first | (k_here; (first | (with_reducible show wpAny _ _ (newList [Value.ref _]) _ _ _) | (with_reducible show wpAny _ _ (newList [Value.int _ _, Value.int _ _]) _ _ _)); k_dflt (refine' lst_in ?k1_389 ?k2_389 ?k3_389 ?_; (case k1_389 => k_asm); (case k2_389 => k_asm); (case k3_389 => (exact Nat.le_of_ble_eq_true rfl))); intro D9z h9z F9z N9z u9z) | fin_once hold walk1 | fail); (try k_steps)))); (all_goals (try ((with_reducible refine unheld ?_); (first | (k_here; (first | (with_reducible show wpAny _ _ (newTuple []) _ _ _) | (with_reducible show wpAny _ _ (newTuple [Value.int _ _]) _ _ _) | (with_reducible show wpAny _ _ (newTuple [Value.int _ _, Value.int _ _]) _ _ _) | (with_reducible show wpAny _ _ (newTuple [Value.ref _, Value.ref _, Value.ref _]) _ _ _)); k_dflt (refine' tup_in ?k1_390 ?k2_390 ?k3_390 ?_; (case k1_390 => k_asm); (case k2_390 => k_asm); (case k3_390 => (exact Nat.le_of_ble_eq_true rfl))); intro D9z h9z F9z N9z u9z) | fin_once hold walk1 | fail); (try k_steps)))); (all_goals (try ((with_reducible refine unheld ?_); (first | (refine' con_use ?k1_391 ?k2_391 ?k3_391 ?k4_391 ?k5_391 ?kK_391 ?kd_391 ?ku_391 (mk_ctx _ _ _ _ _ _ _ _ _ ) ?_; (case k1_391 => k_asm); (case k2_391 => k_asm); (case k3_391 => k_asm); (case k4_391 => k_asm); (case k5_391 => k_asm); (case kK_391 => first | exact rfl | assumption); (case kd_391 => ktr_room); (case ku_391 => ktr_units); k_whole;  intro x9z d9z TT9z u91z u92z h9z tk9z F9z N9z; (try dsimp only); (try k_fold)) | fin_once hold walk1 | fail); (try k_steps)))); (all_goals (try ((with_reducible refine unheld ?_); (first | (k_here; (first | (with_reducible show wpAny _ _ (newList [Value.ref _]) _ _ _) | (with_reducible show wpAny _ _ (newList [Value.int _ _, Value.int _ _]) _ _ _)); k_dflt (refine' lst_in ?k1_392 ?k2_392 ?k3_392 ?_; (case k1_392 => k_asm); (case k2_392 => k_asm); (case k3_392 => (exact Nat.le_of_ble_eq_true rfl))); intro D9z h9z F9z N9z u9z) | fin_once hold walk1 | fail); (try k_steps)))); (all_goals (try ((with_reducible refine unheld ?_); (first | (refine' con_use ?k1_393 ?k2_393 ?k3_393 ?k4_393 ?k5_393 ?kK_393 ?kd_393 ?ku_393 (mk_lk _ _ _ _ _ _ _ _ _ _ ) ?_; (case k1_393 => k_asm); (case k2_393 => k_asm); (case k3_393 => k_asm); (case k4_393 => k_asm); (case k5_393 => k_asm); (case kK_393 => first | exact rfl | assumption); (case kd_393 => ktr_room); (case ku_393 => ktr_units); k_whole;  intro x9z d9z TT9z u91z u92z h9z tk9z F9z N9z; (try dsimp only); (try k_fold)) | fin_once hold walk1 | fail); (try k_steps)))); (all_goals (try ((with_reducible refine unheld ?_); (first | (k_here; (with_reducible show wpAny _ _ (call (Value.builtin _) [Value.ref _, Value.ref _]) _ _ _); (fail_if_success (fail_if_success (with_reducible rename LksAre _ _ _ _ => Xz))); refine blk ?_) | fin_once hold walk1 | fail); (try k_steps)))))
  unfold Blocked
  refine' append_S ?wa ?wb ?wc (arr_le hks) ?_
  case wa => k_asm
  case wb => k_asm
  case wc => k_mem
  intro h9 F9 N9
  (k_steps)
  unfold Blocked
  exact LL.turn (by k_asm) (by assumption) (fun z h1 h2 => by simp only [if_neg h1, if_neg h2]) s1 t1 (ho _ (.head _)) b2 t6 t5 s3 hrow hcov2 hnon2 t7 (by with_reducible assumption) (by assumption) (by with_reducible assumption) (by with_reducible assumption) (by with_reducible assumption) (by with_reducible assumption) (by with_reducible assumption) (by with_reducible assumption) (by with_reducible assumption) (by with_reducible assumption) (by with_reducible assumption) (by with_reducible assumption) (by with_reducible assumption) (by with_reducible assumption) (by with_reducible assumption) (by with_reducible assumption)
end Y1
theorem zb : Pf.L0.D0.zb.Z.1 vY0_0 vY0_1 z9z vY0_3 t8z vY0_5 vY0_6 vY0_7 vY0_8 vY0_9 vY0_10 vY0_11 vY0_12 vY0_13 vY0_14 vY0_15 u9z v9z cov9z cd9z gt9z gvs9z t9z vY0_23 vY0_24 vY0_25 vY0_26 vY0_27 vY0_28 vY0_29 x9z d9z t91z h9z tk9z vY0_35 vY0_36 vY0_37 vY0_38 base i m₂ h tk I oI rest2 ks c' ar row vsr cr := zb.Z.2 (Y1.zk Y1.zb)
end Y0
namespace D1
noncomputable def zu : PySem.Addr × PySem.Heap × Int × PySem.Tok × PySem.Tok × PySem.Heap × Nat × PySem.Addr × PySem.Heap × Nat × PySem.Heap × Nat × PySem.Addr × PySem.Heap × Nat × PySem.Tok × PySem.Tok × PySem.Tok × PySem.Addr × PySem.Addr × PySem.Addr × (List PySem.Value) × PySem.Tok × PySem.Heap × Nat × PySem.Heap × Nat × PySem.Addr × PySem.Heap × PySem.Obj × PySem.Addr × PySem.Addr × PySem.Tok × PySem.Heap × Nat × PySem.Heap × PySem.Addr × PySem.Heap × PySem.Heap × Pf.Led × (PySem.Str → Option PySem.Value) × PySem.Heap × Nat × (List (PySem.Addr × PySem.Obj)) × (List PySem.Value) × Nat := eps (0, {}, 0, 0, 0, {}, 0, 0, {}, 0, {}, 0, 0, {}, 0, 0, 0, 0, 0, 0, 0, [], 0, {}, 0, {}, 0, 0, {}, { cls := .none, data := .fields #[] }, 0, 0, 0, {}, 0, {}, 0, {}, {}, [], (fun _ => none), {}, 0, [], [], 0) fun t => Pf.L0.D0.zb.Z.2.1 t.1 t.2.1 t.2.2.1 t.2.2.2.1 t.2.2.2.2.1 t.2.2.2.2.2.1 t.2.2.2.2.2.2.1 t.2.2.2.2.2.2.2.1 t.2.2.2.2.2.2.2.2.1 t.2.2.2.2.2.2.2.2.2.1 t.2.2.2.2.2.2.2.2.2.2.1 t.2.2.2.2.2.2.2.2.2.2.2.1 t.2.2.2.2.2.2.2.2.2.2.2.2.1 t.2.2.2.2.2.2.2.2.2.2.2.2.2.1 t.2.2.2.2.2.2.2.2.2.2.2.2.2.2.1 t.2.2.2.2.2.2.2.2.2.2.2.2.2.2.2.1 t.2.2.2.2.2.2.2.2.2.2.2.2.2.2.2.2.1 t.2.2.2.2.2.2.2.2.2.2.2.2.2.2.2.2.2.1 t.2.2.2.2.2.2.2.2.2.2.2.2.2.2.2.2.2.2.1 t.2.2.2.2.2.2.2.2.2.2.2.2.2.2.2.2.2.2.2.1 t.2.2.2.2.2.2.2.2.2.2.2.2.2.2.2.2.2.2.2.2.1 t.2.2.2.2.2.2.2.2.2.2.2.2.2.2.2.2.2.2.2.2.2.1 t.2.2.2.2.2.2.2.2.2.2.2.2.2.2.2.2.2.2.2.2.2.2.1 t.2.2.2.2.2.2.2.2.2.2.2.2.2.2.2.2.2.2.2.2.2.2.2.1 t.2.2.2.2.2.2.2.2.2.2.2.2.2.2.2.2.2.2.2.2.2.2.2.2.1 t.2.2.2.2.2.2.2.2.2.2.2.2.2.2.2.2.2.2.2.2.2.2.2.2.2.1 t.2.2.2.2.2.2.2.2.2.2.2.2.2.2.2.2.2.2.2.2.2.2.2.2.2.2.1 t.2.2.2.2.2.2.2.2.2.2.2.2.2.2.2.2.2.2.2.2.2.2.2.2.2.2.2.1 t.2.2.2.2.2.2.2.2.2.2.2.2.2.2.2.2.2.2.2.2.2.2.2.2.2.2.2.2.1 t.2.2.2.2.2.2.2.2.2.2.2.2.2.2.2.2.2.2.2.2.2.2.2.2.2.2.2.2.2.1 t.2.2.2.2.2.2.2.2.2.2.2.2.2.2.2.2.2.2.2.2.2.2.2.2.2.2.2.2.2.2.1 t.2.2.2.2.2.2.2.2.2.2.2.2.2.2.2.2.2.2.2.2.2.2.2.2.2.2.2.2.2.2.2.1 t.2.2.2.2.2.2.2.2.2.2.2.2.2.2.2.2.2.2.2.2.2.2.2.2.2.2.2.2.2.2.2.2.1 t.2.2.2.2.2.2.2.2.2.2.2.2.2.2.2.2.2.2.2.2.2.2.2.2.2.2.2.2.2.2.2.2.2.1 t.2.2.2.2.2.2.2.2.2.2.2.2.2.2.2.2.2.2.2.2.2.2.2.2.2.2.2.2.2.2.2.2.2.2.1 t.2.2.2.2.2.2.2.2.2.2.2.2.2.2.2.2.2.2.2.2.2.2.2.2.2.2.2.2.2.2.2.2.2.2.2.1 t.2.2.2.2.2.2.2.2.2.2.2.2.2.2.2.2.2.2.2.2.2.2.2.2.2.2.2.2.2.2.2.2.2.2.2.2.1 t.2.2.2.2.2.2.2.2.2.2.2.2.2.2.2.2.2.2.2.2.2.2.2.2.2.2.2.2.2.2.2.2.2.2.2.2.2.1 t.2.2.2.2.2.2.2.2.2.2.2.2.2.2.2.2.2.2.2.2.2.2.2.2.2.2.2.2.2.2.2.2.2.2.2.2.2.2.1 t.2.2.2.2.2.2.2.2.2.2.2.2.2.2.2.2.2.2.2.2.2.2.2.2.2.2.2.2.2.2.2.2.2.2.2.2.2.2.2.1 t.2.2.2.2.2.2.2.2.2.2.2.2.2.2.2.2.2.2.2.2.2.2.2.2.2.2.2.2.2.2.2.2.2.2.2.2.2.2.2.2.1 t.2.2.2.2.2.2.2.2.2.2.2.2.2.2.2.2.2.2.2.2.2.2.2.2.2.2.2.2.2.2.2.2.2.2.2.2.2.2.2.2.2.1 t.2.2.2.2.2.2.2.2.2.2.2.2.2.2.2.2.2.2.2.2.2.2.2.2.2.2.2.2.2.2.2.2.2.2.2.2.2.2.2.2.2.2.1 t.2.2.2.2.2.2.2.2.2.2.2.2.2.2.2.2.2.2.2.2.2.2.2.2.2.2.2.2.2.2.2.2.2.2.2.2.2.2.2.2.2.2.2.1 t.2.2.2.2.2.2.2.2.2.2.2.2.2.2.2.2.2.2.2.2.2.2.2.2.2.2.2.2.2.2.2.2.2.2.2.2.2.2.2.2.2.2.2.2.1 t.2.2.2.2.2.2.2.2.2.2.2.2.2.2.2.2.2.2.2.2.2.2.2.2.2.2.2.2.2.2.2.2.2.2.2.2.2.2.2.2.2.2.2.2.2
@[irreducible] noncomputable def vD1_0 : PySem.Addr := zu.1
@[irreducible] noncomputable def vD1_1 : PySem.Heap := zu.2.1
@[irreducible] noncomputable def z9z : Int := zu.2.2.1
@[irreducible] noncomputable def vD1_3 : PySem.Tok := zu.2.2.2.1
@[irreducible] noncomputable def t8z : PySem.Tok := zu.2.2.2.2.1
@[irreducible] noncomputable def vD1_5 : PySem.Heap := zu.2.2.2.2.2.1
@[irreducible] noncomputable def vD1_6 : Nat := zu.2.2.2.2.2.2.1
@[irreducible] noncomputable def vD1_7 : PySem.Addr := zu.2.2.2.2.2.2.2.1
@[irreducible] noncomputable def vD1_8 : PySem.Heap := zu.2.2.2.2.2.2.2.2.1
@[irreducible] noncomputable def vD1_9 : Nat := zu.2.2.2.2.2.2.2.2.2.1
@[irreducible] noncomputable def vD1_10 : PySem.Heap := zu.2.2.2.2.2.2.2.2.2.2.1
@[irreducible] noncomputable def vD1_11 : Nat := zu.2.2.2.2.2.2.2.2.2.2.2.1
@[irreducible] noncomputable def vD1_12 : PySem.Addr := zu.2.2.2.2.2.2.2.2.2.2.2.2.1
@[irreducible] noncomputable def vD1_13 : PySem.Heap := zu.2.2.2.2.2.2.2.2.2.2.2.2.2.1
@[irreducible] noncomputable def vD1_14 : Nat := zu.2.2.2.2.2.2.2.2.2.2.2.2.2.2.1
@[irreducible] noncomputable def vD1_15 : PySem.Tok := zu.2.2.2.2.2.2.2.2.2.2.2.2.2.2.2.1
@[irreducible] noncomputable def u9z : PySem.Tok := zu.2.2.2.2.2.2.2.2.2.2.2.2.2.2.2.2.1
@[irreducible] noncomputable def v9z : PySem.Tok := zu.2.2.2.2.2.2.2.2.2.2.2.2.2.2.2.2.2.1
@[irreducible] noncomputable def cov9z : PySem.Addr := zu.2.2.2.2.2.2.2.2.2.2.2.2.2.2.2.2.2.2.1
@[irreducible] noncomputable def cd9z : PySem.Addr := zu.2.2.2.2.2.2.2.2.2.2.2.2.2.2.2.2.2.2.2.1
@[irreducible] noncomputable def gt9z : PySem.Addr := zu.2.2.2.2.2.2.2.2.2.2.2.2.2.2.2.2.2.2.2.2.1
@[irreducible] noncomputable def gvs9z : List PySem.Value := zu.2.2.2.2.2.2.2.2.2.2.2.2.2.2.2.2.2.2.2.2.2.1
@[irreducible] noncomputable def t9z : PySem.Tok := zu.2.2.2.2.2.2.2.2.2.2.2.2.2.2.2.2.2.2.2.2.2.2.1
@[irreducible] noncomputable def vD1_23 : PySem.Heap := zu.2.2.2.2.2.2.2.2.2.2.2.2.2.2.2.2.2.2.2.2.2.2.2.1
@[irreducible] noncomputable def vD1_24 : Nat := zu.2.2.2.2.2.2.2.2.2.2.2.2.2.2.2.2.2.2.2.2.2.2.2.2.1
@[irreducible] noncomputable def vD1_25 : PySem.Heap := zu.2.2.2.2.2.2.2.2.2.2.2.2.2.2.2.2.2.2.2.2.2.2.2.2.2.1
@[irreducible] noncomputable def vD1_26 : Nat := zu.2.2.2.2.2.2.2.2.2.2.2.2.2.2.2.2.2.2.2.2.2.2.2.2.2.2.1
@[irreducible] noncomputable def vD1_27 : PySem.Addr := zu.2.2.2.2.2.2.2.2.2.2.2.2.2.2.2.2.2.2.2.2.2.2.2.2.2.2.2.1
@[irreducible] noncomputable def vD1_28 : PySem.Heap := zu.2.2.2.2.2.2.2.2.2.2.2.2.2.2.2.2.2.2.2.2.2.2.2.2.2.2.2.2.1
@[irreducible] noncomputable def vD1_29 : PySem.Obj := zu.2.2.2.2.2.2.2.2.2.2.2.2.2.2.2.2.2.2.2.2.2.2.2.2.2.2.2.2.2.1
@[irreducible] noncomputable def x9z : PySem.Addr := zu.2.2.2.2.2.2.2.2.2.2.2.2.2.2.2.2.2.2.2.2.2.2.2.2.2.2.2.2.2.2.1
@[irreducible] noncomputable def d9z : PySem.Addr := zu.2.2.2.2.2.2.2.2.2.2.2.2.2.2.2.2.2.2.2.2.2.2.2.2.2.2.2.2.2.2.2.1
@[irreducible] noncomputable def t91z : PySem.Tok := zu.2.2.2.2.2.2.2.2.2.2.2.2.2.2.2.2.2.2.2.2.2.2.2.2.2.2.2.2.2.2.2.2.1
@[irreducible] noncomputable def h9z : PySem.Heap := zu.2.2.2.2.2.2.2.2.2.2.2.2.2.2.2.2.2.2.2.2.2.2.2.2.2.2.2.2.2.2.2.2.2.1
@[irreducible] noncomputable def tk9z : Nat := zu.2.2.2.2.2.2.2.2.2.2.2.2.2.2.2.2.2.2.2.2.2.2.2.2.2.2.2.2.2.2.2.2.2.2.1
@[irreducible] noncomputable def vD1_35 : PySem.Heap := zu.2.2.2.2.2.2.2.2.2.2.2.2.2.2.2.2.2.2.2.2.2.2.2.2.2.2.2.2.2.2.2.2.2.2.2.1
@[irreducible] noncomputable def vD1_36 : PySem.Addr := zu.2.2.2.2.2.2.2.2.2.2.2.2.2.2.2.2.2.2.2.2.2.2.2.2.2.2.2.2.2.2.2.2.2.2.2.2.1
@[irreducible] noncomputable def vD1_37 : PySem.Heap := zu.2.2.2.2.2.2.2.2.2.2.2.2.2.2.2.2.2.2.2.2.2.2.2.2.2.2.2.2.2.2.2.2.2.2.2.2.2.1
@[irreducible] noncomputable def vD1_38 : PySem.Heap := zu.2.2.2.2.2.2.2.2.2.2.2.2.2.2.2.2.2.2.2.2.2.2.2.2.2.2.2.2.2.2.2.2.2.2.2.2.2.2.1
@[irreducible] noncomputable def base : Pf.Led := zu.2.2.2.2.2.2.2.2.2.2.2.2.2.2.2.2.2.2.2.2.2.2.2.2.2.2.2.2.2.2.2.2.2.2.2.2.2.2.2.1
@[irreducible] noncomputable def m₃ : PySem.Str → Option PySem.Value := zu.2.2.2.2.2.2.2.2.2.2.2.2.2.2.2.2.2.2.2.2.2.2.2.2.2.2.2.2.2.2.2.2.2.2.2.2.2.2.2.2.1
@[irreducible] noncomputable def h : PySem.Heap := zu.2.2.2.2.2.2.2.2.2.2.2.2.2.2.2.2.2.2.2.2.2.2.2.2.2.2.2.2.2.2.2.2.2.2.2.2.2.2.2.2.2.1
@[irreducible] noncomputable def tk : Nat := zu.2.2.2.2.2.2.2.2.2.2.2.2.2.2.2.2.2.2.2.2.2.2.2.2.2.2.2.2.2.2.2.2.2.2.2.2.2.2.2.2.2.2.1
@[irreducible] noncomputable def rest3 : List (PySem.Addr × PySem.Obj) := zu.2.2.2.2.2.2.2.2.2.2.2.2.2.2.2.2.2.2.2.2.2.2.2.2.2.2.2.2.2.2.2.2.2.2.2.2.2.2.2.2.2.2.2.1
@[irreducible] noncomputable def ks : List PySem.Value := zu.2.2.2.2.2.2.2.2.2.2.2.2.2.2.2.2.2.2.2.2.2.2.2.2.2.2.2.2.2.2.2.2.2.2.2.2.2.2.2.2.2.2.2.2.1
@[irreducible] noncomputable def c' : Nat := zu.2.2.2.2.2.2.2.2.2.2.2.2.2.2.2.2.2.2.2.2.2.2.2.2.2.2.2.2.2.2.2.2.2.2.2.2.2.2.2.2.2.2.2.2.2
theorem zk : Pf.L0.D0.zb.Z.2.1 vD1_0 vD1_1 z9z vD1_3 t8z vD1_5 vD1_6 vD1_7 vD1_8 vD1_9 vD1_10 vD1_11 vD1_12 vD1_13 vD1_14 vD1_15 u9z v9z cov9z cd9z gt9z gvs9z t9z vD1_23 vD1_24 vD1_25 vD1_26 vD1_27 vD1_28 vD1_29 x9z d9z t91z h9z tk9z vD1_35 vD1_36 vD1_37 vD1_38 base m₃ h tk rest3 ks c' → ∀ x0 x1 x2 x3 x4 x5 x6 x7 x8 x9 x10 x11 x12 x13 x14 x15 x16 x17 x18 x19 x20 x21 x22 x23 x24 x25 x26 x27 x28 x29 x30 x31 x32 x33 x34 x35 x36 x37 x38 x39 x40 x41 x42 x43 x44 x45, Pf.L0.D0.zb.Z.2.1 x0 x1 x2 x3 x4 x5 x6 x7 x8 x9 x10 x11 x12 x13 x14 x15 x16 x17 x18 x19 x20 x21 x22 x23 x24 x25 x26 x27 x28 x29 x30 x31 x32 x33 x34 x35 x36 x37 x38 x39 x40 x41 x42 x43 x44 x45 := by
  delta vD1_0 vD1_1 z9z vD1_3 t8z vD1_5 vD1_6 vD1_7 vD1_8 vD1_9 vD1_10 vD1_11 vD1_12 vD1_13 vD1_14 vD1_15 u9z v9z cov9z cd9z gt9z gvs9z t9z vD1_23 vD1_24 vD1_25 vD1_26 vD1_27 vD1_28 vD1_29 x9z d9z t91z h9z tk9z vD1_35 vD1_36 vD1_37 vD1_38 base m₃ h tk rest3 ks c'
  exact fun h x0 x1 x2 x3 x4 x5 x6 x7 x8 x9 x10 x11 x12 x13 x14 x15 x16 x17 x18 x19 x20 x21 x22 x23 x24 x25 x26 x27 x28 x29 x30 x31 x32 x33 x34 x35 x36 x37 x38 x39 x40 x41 x42 x43 x44 x45 => all_eps (P := fun t => Pf.L0.D0.zb.Z.2.1 t.1 t.2.1 t.2.2.1 t.2.2.2.1 t.2.2.2.2.1 t.2.2.2.2.2.1 t.2.2.2.2.2.2.1 t.2.2.2.2.2.2.2.1 t.2.2.2.2.2.2.2.2.1 t.2.2.2.2.2.2.2.2.2.1 t.2.2.2.2.2.2.2.2.2.2.1 t.2.2.2.2.2.2.2.2.2.2.2.1 t.2.2.2.2.2.2.2.2.2.2.2.2.1 t.2.2.2.2.2.2.2.2.2.2.2.2.2.1 t.2.2.2.2.2.2.2.2.2.2.2.2.2.2.1 t.2.2.2.2.2.2.2.2.2.2.2.2.2.2.2.1 t.2.2.2.2.2.2.2.2.2.2.2.2.2.2.2.2.1 t.2.2.2.2.2.2.2.2.2.2.2.2.2.2.2.2.2.1 t.2.2.2.2.2.2.2.2.2.2.2.2.2.2.2.2.2.2.1 t.2.2.2.2.2.2.2.2.2.2.2.2.2.2.2.2.2.2.2.1 t.2.2.2.2.2.2.2.2.2.2.2.2.2.2.2.2.2.2.2.2.1 t.2.2.2.2.2.2.2.2.2.2.2.2.2.2.2.2.2.2.2.2.2.1 t.2.2.2.2.2.2.2.2.2.2.2.2.2.2.2.2.2.2.2.2.2.2.1 t.2.2.2.2.2.2.2.2.2.2.2.2.2.2.2.2.2.2.2.2.2.2.2.1 t.2.2.2.2.2.2.2.2.2.2.2.2.2.2.2.2.2.2.2.2.2.2.2.2.1 t.2.2.2.2.2.2.2.2.2.2.2.2.2.2.2.2.2.2.2.2.2.2.2.2.2.1 t.2.2.2.2.2.2.2.2.2.2.2.2.2.2.2.2.2.2.2.2.2.2.2.2.2.2.1 t.2.2.2.2.2.2.2.2.2.2.2.2.2.2.2.2.2.2.2.2.2.2.2.2.2.2.2.1 t.2.2.2.2.2.2.2.2.2.2.2.2.2.2.2.2.2.2.2.2.2.2.2.2.2.2.2.2.1 t.2.2.2.2.2.2.2.2.2.2.2.2.2.2.2.2.2.2.2.2.2.2.2.2.2.2.2.2.2.1 t.2.2.2.2.2.2.2.2.2.2.2.2.2.2.2.2.2.2.2.2.2.2.2.2.2.2.2.2.2.2.1 t.2.2.2.2.2.2.2.2.2.2.2.2.2.2.2.2.2.2.2.2.2.2.2.2.2.2.2.2.2.2.2.1 t.2.2.2.2.2.2.2.2.2.2.2.2.2.2.2.2.2.2.2.2.2.2.2.2.2.2.2.2.2.2.2.2.1 t.2.2.2.2.2.2.2.2.2.2.2.2.2.2.2.2.2.2.2.2.2.2.2.2.2.2.2.2.2.2.2.2.2.1 t.2.2.2.2.2.2.2.2.2.2.2.2.2.2.2.2.2.2.2.2.2.2.2.2.2.2.2.2.2.2.2.2.2.2.1 t.2.2.2.2.2.2.2.2.2.2.2.2.2.2.2.2.2.2.2.2.2.2.2.2.2.2.2.2.2.2.2.2.2.2.2.1 t.2.2.2.2.2.2.2.2.2.2.2.2.2.2.2.2.2.2.2.2.2.2.2.2.2.2.2.2.2.2.2.2.2.2.2.2.1 t.2.2.2.2.2.2.2.2.2.2.2.2.2.2.2.2.2.2.2.2.2.2.2.2.2.2.2.2.2.2.2.2.2.2.2.2.2.1 t.2.2.2.2.2.2.2.2.2.2.2.2.2.2.2.2.2.2.2.2.2.2.2.2.2.2.2.2.2.2.2.2.2.2.2.2.2.2.1 t.2.2.2.2.2.2.2.2.2.2.2.2.2.2.2.2.2.2.2.2.2.2.2.2.2.2.2.2.2.2.2.2.2.2.2.2.2.2.2.1 t.2.2.2.2.2.2.2.2.2.2.2.2.2.2.2.2.2.2.2.2.2.2.2.2.2.2.2.2.2.2.2.2.2.2.2.2.2.2.2.2.1 t.2.2.2.2.2.2.2.2.2.2.2.2.2.2.2.2.2.2.2.2.2.2.2.2.2.2.2.2.2.2.2.2.2.2.2.2.2.2.2.2.2.1 t.2.2.2.2.2.2.2.2.2.2.2.2.2.2.2.2.2.2.2.2.2.2.2.2.2.2.2.2.2.2.2.2.2.2.2.2.2.2.2.2.2.2.1 t.2.2.2.2.2.2.2.2.2.2.2.2.2.2.2.2.2.2.2.2.2.2.2.2.2.2.2.2.2.2.2.2.2.2.2.2.2.2.2.2.2.2.2.1 t.2.2.2.2.2.2.2.2.2.2.2.2.2.2.2.2.2.2.2.2.2.2.2.2.2.2.2.2.2.2.2.2.2.2.2.2.2.2.2.2.2.2.2.2.1 t.2.2.2.2.2.2.2.2.2.2.2.2.2.2.2.2.2.2.2.2.2.2.2.2.2.2.2.2.2.2.2.2.2.2.2.2.2.2.2.2.2.2.2.2.2) h (x0, x1, x2, x3, x4, x5, x6, x7, x8, x9, x10, x11, x12, x13, x14, x15, x16, x17, x18, x19, x20, x21, x22, x23, x24, x25, x26, x27, x28, x29, x30, x31, x32, x33, x34, x35, x36, x37, x38, x39, x40, x41, x42, x43, x44, x45)
set_option maxHeartbeats 12000000 in
noncomputable def zb.Z : (P1 : PySem.Addr → PySem.Heap → Nat → PySem.Tok → PySem.Tok → PySem.Tok → PySem.Heap → (List PySem.Value) → (List (PySem.Addr × PySem.Obj)) → (List (Int × PySem.Value)) → Prop) ×' ((∀ x0 x1 x2 x3 x4 x5 x6 x7 x8 x9, P1 x0 x1 x2 x3 x4 x5 x6 x7 x8 x9) → (Pf.L0.D0.zb.Z.2.1 vD1_0 vD1_1 z9z vD1_3 t8z vD1_5 vD1_6 vD1_7 vD1_8 vD1_9 vD1_10 vD1_11 vD1_12 vD1_13 vD1_14 vD1_15 u9z v9z cov9z cd9z gt9z gvs9z t9z vD1_23 vD1_24 vD1_25 vD1_26 vD1_27 vD1_28 vD1_29 x9z d9z t91z h9z tk9z vD1_35 vD1_36 vD1_37 vD1_38 base m₃ h tk rest3 ks c')) := by
  apply PSigma.mk
  focus
    intro Hcut1
    intro G Y ho hg KX X V GL T B TE TW M hcd _ _ _ _ _ _ _ _ _ _ _ _ _ K0 hD hqk _ _ _ _ _ _ _ _ _ _ hI10 hL10 hm j1 j4 j5 j6 j7 y9z y8z _ _ _ _ _ i9z _ b2 b3 b4 b5 b6 b7 b8 F₁ hm3 N₁ s1 s2 s3
    have hfill : (PySem.Challenge.rw_pf0148_01, hd.heap_39) = (PySem.Challenge.rw_pf0148_01, hd.heap_39) := rfl
    revert hfill
    k_fill
    intro hfill; clear hfill
    (k_steps; (all_goals (try ((with_reducible refine unheld ?_); (first | (k_here; (with_reducible show wpAny _ _ (call (Value.type _) [_, _]) _ _ _); k_dflt (refine' rng_in ?k1_395 ?k2_395 ?_; (case k1_395 => k_asm); (case k2_395 => k_asm)); intro d9z h9z tk9z t9z u9z v9z F9z N9z l9z; (try dsimp only)) | fin_once hold walk1 | fail); (try k_steps)))))
    unfold Blocked
    refine comp_rng (n := 270) (a := 10) (b := 280) rfl (by k_asm) (by k_asm) (by k_mem) (by decide) (by decide) (by rw [sizeLine_eq]; omega) ?rg
    intro g2
    refine' comp_ind _ (CB _ _ rest3) ?c1 ?c2 ?c3
    case c1 =>
      refine CB.start ?c11 ?c12
      case c11 => exact sub_all (ltA_ne (by with_reducible assumption)) (by walk_at "SUB")
      case c12 => exact s2
    case c2 =>
      intro i ys nx v I' oI' C' oC' D' m₂ h tk E' hi hJ hv hC hx F N off ne
      obtain ⟨nr, kvs, rfl, t1, t2, t3, t4⟩ := hJ
      obtain ⟨tg, rfl⟩ := hv
      obtain ⟨ne1, ne2, ne3⟩ := ne
      (k_steps; (all_goals (try ((with_reducible refine unheld ?_); (first | (k_here; (first | (with_reducible show wpAny _ _ (newTuple []) _ _ _) | (with_reducible show wpAny _ _ (newTuple [Value.int _ _]) _ _ _) | (with_reducible show wpAny _ _ (newTuple [Value.int _ _, Value.int _ _]) _ _ _) | (with_reducible show wpAny _ _ (newTuple [Value.ref _, Value.ref _, Value.ref _]) _ _ _)); k_dflt (refine' tup_in ?k1_396 ?k2_396 ?k3_396 ?_; (case k1_396 => k_asm); (case k2_396 => k_asm); (case k3_396 => (exact Nat.le_of_ble_eq_true rfl))); intro D9z h9z F9z N9z u9z) | fin_once hold walk1 | fail); (try k_steps)))))
      unfold Blocked
      exact CB.turn t1 t2 t3 t4 off (by k_asm) (by k_asm) (by with_reducible assumption)
    case c3 =>
      intro ys nx hJ
      obtain ⟨nr, kvs, rfl, t1, t2, t3, t4⟩ := hJ
      have hks : ks.length ≤ 100 := by rw [s3.length]; exact Nat.le_trans (List.length_take_le' ..) (by show 3 ≤ 100; omega)
      (walk_at "CUT"; exact fun x0 x1 x2 x3 x4 x5 x6 x7 x8 x9 Hcut1 => Hcut1 x0 x1 x2 x3 x4 x5 x6 x7 x8 x9)
namespace D2
noncomputable def zu : PySem.Addr × PySem.Heap × Nat × PySem.Tok × PySem.Tok × PySem.Tok × PySem.Heap × (List PySem.Value) × (List (PySem.Addr × PySem.Obj)) × (List (Int × PySem.Value)) := eps (0, {}, 0, 0, 0, 0, {}, [], [], []) fun t => Pf.L0.D0.D1.zb.Z.1 t.1 t.2.1 t.2.2.1 t.2.2.2.1 t.2.2.2.2.1 t.2.2.2.2.2.1 t.2.2.2.2.2.2.1 t.2.2.2.2.2.2.2.1 t.2.2.2.2.2.2.2.2.1 t.2.2.2.2.2.2.2.2.2
@[irreducible] noncomputable def d9z : PySem.Addr := zu.1
@[irreducible] noncomputable def h9z : PySem.Heap := zu.2.1
@[irreducible] noncomputable def tk9z : Nat := zu.2.2.1
@[irreducible] noncomputable def t9z : PySem.Tok := zu.2.2.2.1
@[irreducible] noncomputable def u9z : PySem.Tok := zu.2.2.2.2.1
@[irreducible] noncomputable def v9z : PySem.Tok := zu.2.2.2.2.2.1
@[irreducible] noncomputable def g2 : PySem.Heap := zu.2.2.2.2.2.2.1
@[irreducible] noncomputable def ys : List PySem.Value := zu.2.2.2.2.2.2.2.1
@[irreducible] noncomputable def nr : List (PySem.Addr × PySem.Obj) := zu.2.2.2.2.2.2.2.2.1
@[irreducible] noncomputable def kvs : List (Int × PySem.Value) := zu.2.2.2.2.2.2.2.2.2
theorem zk : Pf.L0.D0.D1.zb.Z.1 d9z h9z tk9z t9z u9z v9z g2 ys nr kvs → ∀ x0 x1 x2 x3 x4 x5 x6 x7 x8 x9, Pf.L0.D0.D1.zb.Z.1 x0 x1 x2 x3 x4 x5 x6 x7 x8 x9 := by
  delta d9z h9z tk9z t9z u9z v9z g2 ys nr kvs
  exact fun h x0 x1 x2 x3 x4 x5 x6 x7 x8 x9 => all_eps (P := fun t => Pf.L0.D0.D1.zb.Z.1 t.1 t.2.1 t.2.2.1 t.2.2.2.1 t.2.2.2.2.1 t.2.2.2.2.2.1 t.2.2.2.2.2.2.1 t.2.2.2.2.2.2.2.1 t.2.2.2.2.2.2.2.2.1 t.2.2.2.2.2.2.2.2.2) h (x0, x1, x2, x3, x4, x5, x6, x7, x8, x9)
set_option maxHeartbeats 12000000 in
noncomputable def zb.Z : (P1 : PySem.Addr → PySem.Heap → Nat → PySem.Addr → PySem.Heap → Nat → PySem.Obj → PySem.Addr → PySem.Addr → PySem.Tok → PySem.Heap → Nat → PySem.Addr → PySem.Heap → PySem.Addr → PySem.Addr → (Nat → PySem.Tok) → PySem.Heap → Nat → PySem.Heap → (List (PySem.Addr × PySem.Obj)) → PySem.Addr → PySem.Addr → PySem.Addr → Prop) ×' (P2 : PySem.Addr → PySem.Heap → Nat → PySem.Addr → PySem.Heap → Nat → PySem.Obj → PySem.Addr → PySem.Addr → PySem.Tok → PySem.Heap → Nat → PySem.Addr → PySem.Heap → PySem.Addr → PySem.Addr → (Nat → PySem.Tok) → PySem.Heap → Nat → PySem.Heap → (List (PySem.Addr × PySem.Obj)) → PySem.Addr → PySem.Addr → PySem.Addr → Prop) ×' ((∀ x0 x1 x2 x3 x4 x5 x6 x7 x8 x9 x10 x11 x12 x13 x14 x15 x16 x17 x18 x19 x20 x21 x22 x23, P1 x0 x1 x2 x3 x4 x5 x6 x7 x8 x9 x10 x11 x12 x13 x14 x15 x16 x17 x18 x19 x20 x21 x22 x23) → (∀ x0 x1 x2 x3 x4 x5 x6 x7 x8 x9 x10 x11 x12 x13 x14 x15 x16 x17 x18 x19 x20 x21 x22 x23, P2 x0 x1 x2 x3 x4 x5 x6 x7 x8 x9 x10 x11 x12 x13 x14 x15 x16 x17 x18 x19 x20 x21 x22 x23) → (Pf.L0.D0.D1.zb.Z.1 d9z h9z tk9z t9z u9z v9z g2 ys nr kvs)) := by
  apply PSigma.mk; apply PSigma.mk
  focus
    intro Hcut1 Hcut2
    intro G Y ho hg KX X V GL T B TE TW M hcd _ _ _ _ _ _ _ _ _ _ _ _ _ K0 hD hqk _ _ _ _ _ _ _ _ _ _ hI10 hL10 hm j1 j4 j5 j6 j7 y9z y8z _ _ _ _ _ i9z _ b2 b3 b4 b5 b6 b7 b8 F₁ hm3 N₁ s1 s2 s3 F9z N9z l9z t1 t2 t3 t4 hks
    have hfill : (PySem.Challenge.rw_pf0148_01, hd.heap_39) = (PySem.Challenge.rw_pf0148_01, hd.heap_39) := rfl
    revert hfill
    k_fill
    intro hfill; clear hfill
    (k_steps; (all_goals (try ((with_reducible refine unheld ?_); (first | (k_here; (with_reducible show wpAny _ _ (call (Value.type _) [Value.ref _]) _ _ _); refine blk ?_) | fin_once hold walk1 | fail); (try k_steps)))))
    unfold Blocked
    refine' call_dict_pairs rfl ?wa ?wb ?wc ?wd (t4.at ?we) t4.len ?wf ?_
    case wa => k_asm
    case wb => k_asm
    case wc => exact modules_low (Top.nolimit (by k_asm))
    case wd => k_mem
    case we => walk_at "SUB"
    case wf => rw [t4.1, sizeLine_eq]; omega
    intro mp h9 tk9 o9 F9 N9 lo9 hd9 l9
    (k_steps; (all_goals (try ((with_reducible refine unheld ?_); (first | (refine' con_use ?k1_398 ?k2_398 ?k3_398 ?k4_398 ?k5_398 ?kK_398 ?kd_398 ?ku_398 (mk_single _ _ _ _ _ _ ) ?_; (case k1_398 => k_asm); (case k2_398 => k_asm); (case k3_398 => k_asm); (case k4_398 => k_asm); (case k5_398 => k_asm); (case kK_398 => first | exact rfl | assumption); (case kd_398 => ktr_room); (case ku_398 => ktr_units); k_whole;  intro x9z d9z t91z u91z u92z h9z tk9z F9z N9z; (try dsimp only); (try k_fold)) | fin_once hold walk1 | fail); (try k_steps)))); (all_goals (try ((with_reducible refine unheld ?_); (first | (k_here; (first | (with_reducible show wpAny _ _ (newList [Value.ref _]) _ _ _) | (with_reducible show wpAny _ _ (newList [Value.int _ _, Value.int _ _]) _ _ _)); k_dflt (refine' lst_in ?k1_399 ?k2_399 ?k3_399 ?_; (case k1_399 => k_asm); (case k2_399 => k_asm); (case k3_399 => (exact Nat.le_of_ble_eq_true rfl))); intro D9z h9z F9z N9z u9z) | fin_once hold walk1 | fail); (try k_steps)))); (all_goals (try ((with_reducible refine unheld ?_); (first | (refine' con_use ?k1_400 ?k2_400 ?k3_400 ?k4_400 ?k5_400 ?kK_400 ?kd_400 ?ku_400 (mk_lk _ _ _ _ _ _ _ _ _ _ ) ?_; (case k1_400 => k_asm); (case k2_400 => k_asm); (case k3_400 => k_asm); (case k4_400 => k_asm); (case k5_400 => k_asm); (case kK_400 => first | exact rfl | assumption); (case kd_400 => ktr_room); (case ku_400 => ktr_units); k_whole;  intro x9z d9z TT9z u91z u92z h9z tk9z F9z N9z; (try dsimp only); (try k_fold)) | fin_once hold walk1 | fail); (try k_steps)))); (all_goals (try ((with_reducible refine unheld ?_); (first | (k_here; (with_reducible show wpAny _ _ (call (Value.builtin _) [Value.ref _, Value.ref _]) _ _ _); (fail_if_success (fail_if_success (with_reducible rename LksAre _ _ _ _ => Xz))); refine blk ?_) | fin_once hold walk1 | fail); (try k_steps)))))
    unfold Blocked
    refine' append_S ?wa ?wb ?wc (arr_le hks) ?_
    case wa => k_asm
    case wb => k_asm
    case wc => k_mem
    intro h9 F9 N9
    obtain ⟨base4, k0, k1, k2, N4, hall, s4⟩ := lks_done (by with_reducible assumption) t1 t3 s3 t4 lo9 hd9 (by with_reducible assumption) (by with_reducible assumption) (by with_reducible assumption) (by with_reducible assumption) (by with_reducible assumption) l9
    have sb : ∀ p ∈ base, p ∈ base4 := fun p hp => s4 p (t1 p (s1 p hp))
    have hrows : RowsIn base4 _ a0 a1 a2 r0 r1 r2 := ⟨⟨c, sb _ b2⟩, b5.1.mono sb, b6.1.mono sb, b7.1.mono sb⟩
    have q0 := b5.2.1
    have q1 := b6.2.1
    have q2 : ∀ g ∈ r2, g = 3 := fun g hg => (b7.2.1 g hg).elim id id
    have hbs := bt_split (sb _ b8) (by omega)
    have FN := And.intro F9 N4
    clear N9 s1 s3 s4 sb t1 t4 b2 b3 b4 b5 b6 b7 b8
    repeat (rename News _ _ _ _ => X; clear X)
    repeat (rename Fr _ _ _ _ => X; clear X)
    repeat (rename AllLt _ _ => X; clear X)
    repeat (rename _ < _ ∧ _ => X; clear X)
    repeat (rename (∀ (p : Addr × Obj), p ∈ _ → p.fst < _) => X; clear X)
    repeat (rename (∀ (p : Addr × Obj), p ∈ _ → p.fst ≠ _) => X; clear X)
    repeat (rename Obj.IsDictOf _ _ _ => X; clear X)
    repeat (rename PyProof.V.FlatPairs _ _ _ => X; clear X)
    obtain ⟨F4, N4⟩ := FN
    rcases hbs with hbt | hbt
    · skip
      (walk_at "CUT"; exact fun x0 x1 x2 x3 x4 x5 x6 x7 x8 x9 x10 x11 x12 x13 x14 x15 x16 x17 x18 x19 x20 x21 x22 x23 Hcut1 Hcut2 => Hcut1 x0 x1 x2 x3 x4 x5 x6 x7 x8 x9 x10 x11 x12 x13 x14 x15 x16 x17 x18 x19 x20 x21 x22 x23)
    · skip
      (walk_at "CUT"; exact fun x0 x1 x2 x3 x4 x5 x6 x7 x8 x9 x10 x11 x12 x13 x14 x15 x16 x17 x18 x19 x20 x21 x22 x23 Hcut1 Hcut2 => Hcut2 x0 x1 x2 x3 x4 x5 x6 x7 x8 x9 x10 x11 x12 x13 x14 x15 x16 x17 x18 x19 x20 x21 x22 x23)
namespace B0
noncomputable def zu : PySem.Addr × PySem.Heap × Nat × PySem.Addr × PySem.Heap × Nat × PySem.Obj × PySem.Addr × PySem.Addr × PySem.Tok × PySem.Heap × Nat × PySem.Addr × PySem.Heap × PySem.Addr × PySem.Addr × (Nat → PySem.Tok) × PySem.Heap × Nat × PySem.Heap × (List (PySem.Addr × PySem.Obj)) × PySem.Addr × PySem.Addr × PySem.Addr := eps (0, {}, 0, 0, {}, 0, { cls := .none, data := .fields #[] }, 0, 0, 0, {}, 0, 0, {}, 0, 0, (fun _ => 0), {}, 0, {}, [], 0, 0, 0) fun t => Pf.L0.D0.D1.D2.zb.Z.1 t.1 t.2.1 t.2.2.1 t.2.2.2.1 t.2.2.2.2.1 t.2.2.2.2.2.1 t.2.2.2.2.2.2.1 t.2.2.2.2.2.2.2.1 t.2.2.2.2.2.2.2.2.1 t.2.2.2.2.2.2.2.2.2.1 t.2.2.2.2.2.2.2.2.2.2.1 t.2.2.2.2.2.2.2.2.2.2.2.1 t.2.2.2.2.2.2.2.2.2.2.2.2.1 t.2.2.2.2.2.2.2.2.2.2.2.2.2.1 t.2.2.2.2.2.2.2.2.2.2.2.2.2.2.1 t.2.2.2.2.2.2.2.2.2.2.2.2.2.2.2.1 t.2.2.2.2.2.2.2.2.2.2.2.2.2.2.2.2.1 t.2.2.2.2.2.2.2.2.2.2.2.2.2.2.2.2.2.1 t.2.2.2.2.2.2.2.2.2.2.2.2.2.2.2.2.2.2.1 t.2.2.2.2.2.2.2.2.2.2.2.2.2.2.2.2.2.2.2.1 t.2.2.2.2.2.2.2.2.2.2.2.2.2.2.2.2.2.2.2.2.1 t.2.2.2.2.2.2.2.2.2.2.2.2.2.2.2.2.2.2.2.2.2.1 t.2.2.2.2.2.2.2.2.2.2.2.2.2.2.2.2.2.2.2.2.2.2.1 t.2.2.2.2.2.2.2.2.2.2.2.2.2.2.2.2.2.2.2.2.2.2.2
@[irreducible] noncomputable def vB0_0 : PySem.Addr := zu.1
@[irreducible] noncomputable def vB0_1 : PySem.Heap := zu.2.1
@[irreducible] noncomputable def vB0_2 : Nat := zu.2.2.1
@[irreducible] noncomputable def mp : PySem.Addr := zu.2.2.2.1
@[irreducible] noncomputable def vB0_4 : PySem.Heap := zu.2.2.2.2.1
@[irreducible] noncomputable def tk9 : Nat := zu.2.2.2.2.2.1
@[irreducible] noncomputable def o9 : PySem.Obj := zu.2.2.2.2.2.2.1
@[irreducible] noncomputable def vB0_7 : PySem.Addr := zu.2.2.2.2.2.2.2.1
@[irreducible] noncomputable def vB0_8 : PySem.Addr := zu.2.2.2.2.2.2.2.2.1
@[irreducible] noncomputable def t91z : PySem.Tok := zu.2.2.2.2.2.2.2.2.2.1
@[irreducible] noncomputable def vB0_10 : PySem.Heap := zu.2.2.2.2.2.2.2.2.2.2.1
@[irreducible] noncomputable def vB0_11 : Nat := zu.2.2.2.2.2.2.2.2.2.2.2.1
@[irreducible] noncomputable def D9z : PySem.Addr := zu.2.2.2.2.2.2.2.2.2.2.2.2.1
@[irreducible] noncomputable def vB0_13 : PySem.Heap := zu.2.2.2.2.2.2.2.2.2.2.2.2.2.1
@[irreducible] noncomputable def x9z : PySem.Addr := zu.2.2.2.2.2.2.2.2.2.2.2.2.2.2.1
@[irreducible] noncomputable def d9z : PySem.Addr := zu.2.2.2.2.2.2.2.2.2.2.2.2.2.2.2.1
@[irreducible] noncomputable def TT9z : Nat → PySem.Tok := zu.2.2.2.2.2.2.2.2.2.2.2.2.2.2.2.2.1
@[irreducible] noncomputable def h9z : PySem.Heap := zu.2.2.2.2.2.2.2.2.2.2.2.2.2.2.2.2.2.1
@[irreducible] noncomputable def tk9z : Nat := zu.2.2.2.2.2.2.2.2.2.2.2.2.2.2.2.2.2.2.1
@[irreducible] noncomputable def h9 : PySem.Heap := zu.2.2.2.2.2.2.2.2.2.2.2.2.2.2.2.2.2.2.2.1
@[irreducible] noncomputable def base4 : List (PySem.Addr × PySem.Obj) := zu.2.2.2.2.2.2.2.2.2.2.2.2.2.2.2.2.2.2.2.2.1
@[irreducible] noncomputable def k0 : PySem.Addr := zu.2.2.2.2.2.2.2.2.2.2.2.2.2.2.2.2.2.2.2.2.2.1
@[irreducible] noncomputable def k1 : PySem.Addr := zu.2.2.2.2.2.2.2.2.2.2.2.2.2.2.2.2.2.2.2.2.2.2.1
@[irreducible] noncomputable def k2 : PySem.Addr := zu.2.2.2.2.2.2.2.2.2.2.2.2.2.2.2.2.2.2.2.2.2.2.2
theorem zk : Pf.L0.D0.D1.D2.zb.Z.1 vB0_0 vB0_1 vB0_2 mp vB0_4 tk9 o9 vB0_7 vB0_8 t91z vB0_10 vB0_11 D9z vB0_13 x9z d9z TT9z h9z tk9z h9 base4 k0 k1 k2 → ∀ x0 x1 x2 x3 x4 x5 x6 x7 x8 x9 x10 x11 x12 x13 x14 x15 x16 x17 x18 x19 x20 x21 x22 x23, Pf.L0.D0.D1.D2.zb.Z.1 x0 x1 x2 x3 x4 x5 x6 x7 x8 x9 x10 x11 x12 x13 x14 x15 x16 x17 x18 x19 x20 x21 x22 x23 := by
  delta vB0_0 vB0_1 vB0_2 mp vB0_4 tk9 o9 vB0_7 vB0_8 t91z vB0_10 vB0_11 D9z vB0_13 x9z d9z TT9z h9z tk9z h9 base4 k0 k1 k2
  exact fun h x0 x1 x2 x3 x4 x5 x6 x7 x8 x9 x10 x11 x12 x13 x14 x15 x16 x17 x18 x19 x20 x21 x22 x23 => all_eps (P := fun t => Pf.L0.D0.D1.D2.zb.Z.1 t.1 t.2.1 t.2.2.1 t.2.2.2.1 t.2.2.2.2.1 t.2.2.2.2.2.1 t.2.2.2.2.2.2.1 t.2.2.2.2.2.2.2.1 t.2.2.2.2.2.2.2.2.1 t.2.2.2.2.2.2.2.2.2.1 t.2.2.2.2.2.2.2.2.2.2.1 t.2.2.2.2.2.2.2.2.2.2.2.1 t.2.2.2.2.2.2.2.2.2.2.2.2.1 t.2.2.2.2.2.2.2.2.2.2.2.2.2.1 t.2.2.2.2.2.2.2.2.2.2.2.2.2.2.1 t.2.2.2.2.2.2.2.2.2.2.2.2.2.2.2.1 t.2.2.2.2.2.2.2.2.2.2.2.2.2.2.2.2.1 t.2.2.2.2.2.2.2.2.2.2.2.2.2.2.2.2.2.1 t.2.2.2.2.2.2.2.2.2.2.2.2.2.2.2.2.2.2.1 t.2.2.2.2.2.2.2.2.2.2.2.2.2.2.2.2.2.2.2.1 t.2.2.2.2.2.2.2.2.2.2.2.2.2.2.2.2.2.2.2.2.1 t.2.2.2.2.2.2.2.2.2.2.2.2.2.2.2.2.2.2.2.2.2.1 t.2.2.2.2.2.2.2.2.2.2.2.2.2.2.2.2.2.2.2.2.2.2.1 t.2.2.2.2.2.2.2.2.2.2.2.2.2.2.2.2.2.2.2.2.2.2.2) h (x0, x1, x2, x3, x4, x5, x6, x7, x8, x9, x10, x11, x12, x13, x14, x15, x16, x17, x18, x19, x20, x21, x22, x23)
set_option maxHeartbeats 12000000 in
noncomputable def zb.Z : (P1 : PySem.Addr → PySem.Heap → PySem.Addr → PySem.Heap → PySem.Addr → PySem.Heap → PySem.Addr → PySem.Heap → PySem.Addr → PySem.Heap → Nat → PySem.Addr → PySem.Addr → PySem.Obj → PySem.Addr → PySem.Addr → PySem.Obj → Prop) ×' ((∀ x0 x1 x2 x3 x4 x5 x6 x7 x8 x9 x10 x11 x12 x13 x14 x15 x16, P1 x0 x1 x2 x3 x4 x5 x6 x7 x8 x9 x10 x11 x12 x13 x14 x15 x16) → (Pf.L0.D0.D1.D2.zb.Z.1 vB0_0 vB0_1 vB0_2 mp vB0_4 tk9 o9 vB0_7 vB0_8 t91z vB0_10 vB0_11 D9z vB0_13 x9z d9z TT9z h9z tk9z h9 base4 k0 k1 k2)) := by
  apply PSigma.mk
  focus
    intro Hcut1
    intro G Y ho hg KX X V GL T B TE TW M hcd _ _ _ _ _ _ _ _ _ _ _ _ _ K0 hD hqk _ _ _ _ _ _ _ _ _ _ hI10 hL10 hm j1 j4 j5 j6 j7 y9z y8z _ _ _ _ _ i9z _ hm3 hks lo9 hall hrows q0 q1 q2 F4 N4 hbt
    have hfill : (PySem.Challenge.rw_pf0148_01, hd.heap_39) = (PySem.Challenge.rw_pf0148_01, hd.heap_39) := rfl
    revert hfill
    k_fill
    intro hfill; clear hfill
    (k_steps; (all_goals (try ((with_reducible refine unheld ?_); (first | (k_here; lcp_look; k_dflt (refine enum_assign (_F₀ := by k_asm) (by rfl) (by with_unfolding_all rfl) (by with_unfolding_all rfl) (by decide) (by rfl) (by decide) (by rfl) (by rfl) (by decide) (by rfl) (by rfl) ?_)) | fin_once hold walk1 | fail); (try k_steps)))); (all_goals (try ((with_reducible refine unheld ?_); (first | fin_once hold walk1 | fail); (try k_steps)))); (all_goals (try ((with_reducible refine unheld ?_); (first | fin_once hold walk1 | fail); (try k_steps)))); (all_goals (try ((with_reducible refine unheld ?_); (first | (k_here; (with_reducible show wpAny _ _ (call (Value.type _) [Value.ref _]) (EnumSrc _ _ _ _ _ _ _ _ _ _ _ _ _ _) _ _); refine blk ?_) | fin_once hold walk1 | fail); (try k_steps)))))
    unfold Blocked
    dsimp only at hall
    refine enum_call (IJ wW _ [10, 10]) rfl (by k_asm) (by k_asm) (by k_mem) (by exact Nat.le_of_ble_eq_true rfl) ?el IJ.start ?eR ?ef
    case el => exact fun i ys nx h => IM.sub h _ (List.Mem.head _)
    case eR =>
      intro g i x t ys nx e it C D oe oi oC m₂ h tk E' hv hJ hC hxa hxb F N off
      obtain ⟨gg, tg, rfl, hg⟩ := ints_get (ns := [10, 10]) (.cons _ _ (.cons _ _ .nil)) (by simpa using hv)
      (k_steps; (all_goals (try ((with_reducible refine unheld ?_); (first | (refine' con_use ?k1_404 ?k2_404 ?k3_404 ?k4_404 ?k5_404 ?kK_404 ?kd_404 ?ku_404 (mk_info _ _ _ _ _ _ _ _ _ _ ) ?_; (case k1_404 => k_asm); (case k2_404 => k_asm); (case k3_404 => k_asm); (case k4_404 => k_asm); (case k5_404 => k_asm); (case kK_404 => first | exact rfl | assumption); (case kd_404 => ktr_room); (case ku_404 => ktr_units); k_whole;  intro x9z d9z o9z iv9z u91z u92z h9z tk9z F9z N9z; (try dsimp only); (try k_fold)) | fin_once hold walk1 | fail); (try k_steps)))))
      exact IJ.turn hg hJ off (by assumption) (by k_asm) (by k_asm) (by with_reducible assumption) (by with_reducible assumption)
    case ef =>
      intro IL h tk ys nx F₅ N₅ offD hJ
      obtain ⟨x1, d1, o1, x2, d2, o2, rfl, rfl, iv1, iv2, z1, z2, z3, z4⟩ := IM.two (g1 := 10) (g2 := 10) hJ
      have hx1d1 : x1 ≠ d1 := news_ne N₅ (by k_mem) (by k_mem) iv1.inst_ne
      have hx2d2 : x2 ≠ d2 := news_ne N₅ (by k_mem) (by k_mem) iv2.inst_ne
      have hx2d1 : x2 ≠ d1 := (z3 _ (.tail _ (.head _))).symm
      have hx1d2 : x1 ≠ d2 := z4 _ (.head _)
      have hdd : d1 ≠ d2 := z4 _ (.tail _ (.head _))
      have hI1 : d1 ≠ IL := offD (d1, o1) (by k_mem)
      have hI2 : d2 ≠ IL := offD (d2, o2) (by k_mem)
      have hB2 := fun p hp => z4 p (.tail _ (.tail _ hp))
      (try dsimp only at F₅)
      (try dsimp only)
      (walk_at "CUT"; exact fun x0 x1 x2 x3 x4 x5 x6 x7 x8 x9 x10 x11 x12 x13 x14 x15 x16 Hcut1 => Hcut1 x0 x1 x2 x3 x4 x5 x6 x7 x8 x9 x10 x11 x12 x13 x14 x15 x16)
namespace E0
noncomputable def zu : PySem.Addr × PySem.Heap × PySem.Addr × PySem.Heap × PySem.Addr × PySem.Heap × PySem.Addr × PySem.Heap × PySem.Addr × PySem.Heap × Nat × PySem.Addr × PySem.Addr × PySem.Obj × PySem.Addr × PySem.Addr × PySem.Obj := eps (0, {}, 0, {}, 0, {}, 0, {}, 0, {}, 0, 0, 0, { cls := .none, data := .fields #[] }, 0, 0, { cls := .none, data := .fields #[] }) fun t => Pf.L0.D0.D1.D2.B0.zb.Z.1 t.1 t.2.1 t.2.2.1 t.2.2.2.1 t.2.2.2.2.1 t.2.2.2.2.2.1 t.2.2.2.2.2.2.1 t.2.2.2.2.2.2.2.1 t.2.2.2.2.2.2.2.2.1 t.2.2.2.2.2.2.2.2.2.1 t.2.2.2.2.2.2.2.2.2.2.1 t.2.2.2.2.2.2.2.2.2.2.2.1 t.2.2.2.2.2.2.2.2.2.2.2.2.1 t.2.2.2.2.2.2.2.2.2.2.2.2.2.1 t.2.2.2.2.2.2.2.2.2.2.2.2.2.2.1 t.2.2.2.2.2.2.2.2.2.2.2.2.2.2.2.1 t.2.2.2.2.2.2.2.2.2.2.2.2.2.2.2.2
@[irreducible] noncomputable def vE0_0 : PySem.Addr := zu.1
@[irreducible] noncomputable def vE0_1 : PySem.Heap := zu.2.1
@[irreducible] noncomputable def vE0_2 : PySem.Addr := zu.2.2.1
@[irreducible] noncomputable def vE0_3 : PySem.Heap := zu.2.2.2.1
@[irreducible] noncomputable def vE0_4 : PySem.Addr := zu.2.2.2.2.1
@[irreducible] noncomputable def vE0_5 : PySem.Heap := zu.2.2.2.2.2.1
@[irreducible] noncomputable def vE0_6 : PySem.Addr := zu.2.2.2.2.2.2.1
@[irreducible] noncomputable def vE0_7 : PySem.Heap := zu.2.2.2.2.2.2.2.1
@[irreducible] noncomputable def IL : PySem.Addr := zu.2.2.2.2.2.2.2.2.1
@[irreducible] noncomputable def h : PySem.Heap := zu.2.2.2.2.2.2.2.2.2.1
@[irreducible] noncomputable def tk : Nat := zu.2.2.2.2.2.2.2.2.2.2.1
@[irreducible] noncomputable def x1 : PySem.Addr := zu.2.2.2.2.2.2.2.2.2.2.2.1
@[irreducible] noncomputable def d1 : PySem.Addr := zu.2.2.2.2.2.2.2.2.2.2.2.2.1
@[irreducible] noncomputable def o1 : PySem.Obj := zu.2.2.2.2.2.2.2.2.2.2.2.2.2.1
@[irreducible] noncomputable def x2 : PySem.Addr := zu.2.2.2.2.2.2.2.2.2.2.2.2.2.2.1
@[irreducible] noncomputable def d2 : PySem.Addr := zu.2.2.2.2.2.2.2.2.2.2.2.2.2.2.2.1
@[irreducible] noncomputable def o2 : PySem.Obj := zu.2.2.2.2.2.2.2.2.2.2.2.2.2.2.2.2
theorem zk : Pf.L0.D0.D1.D2.B0.zb.Z.1 vE0_0 vE0_1 vE0_2 vE0_3 vE0_4 vE0_5 vE0_6 vE0_7 IL h tk x1 d1 o1 x2 d2 o2 → ∀ x0 x1 x2 x3 x4 x5 x6 x7 x8 x9 x10 x11 x12 x13 x14 x15 x16, Pf.L0.D0.D1.D2.B0.zb.Z.1 x0 x1 x2 x3 x4 x5 x6 x7 x8 x9 x10 x11 x12 x13 x14 x15 x16 := by
  delta vE0_0 vE0_1 vE0_2 vE0_3 vE0_4 vE0_5 vE0_6 vE0_7 IL h tk x1 d1 o1 x2 d2 o2
  exact fun h x0 x1 x2 x3 x4 x5 x6 x7 x8 x9 x10 x11 x12 x13 x14 x15 x16 => all_eps (P := fun t => Pf.L0.D0.D1.D2.B0.zb.Z.1 t.1 t.2.1 t.2.2.1 t.2.2.2.1 t.2.2.2.2.1 t.2.2.2.2.2.1 t.2.2.2.2.2.2.1 t.2.2.2.2.2.2.2.1 t.2.2.2.2.2.2.2.2.1 t.2.2.2.2.2.2.2.2.2.1 t.2.2.2.2.2.2.2.2.2.2.1 t.2.2.2.2.2.2.2.2.2.2.2.1 t.2.2.2.2.2.2.2.2.2.2.2.2.1 t.2.2.2.2.2.2.2.2.2.2.2.2.2.1 t.2.2.2.2.2.2.2.2.2.2.2.2.2.2.1 t.2.2.2.2.2.2.2.2.2.2.2.2.2.2.2.1 t.2.2.2.2.2.2.2.2.2.2.2.2.2.2.2.2) h (x0, x1, x2, x3, x4, x5, x6, x7, x8, x9, x10, x11, x12, x13, x14, x15, x16)
set_option maxHeartbeats 12000000 in
noncomputable def zb.Z : (P1 : (PySem.Str → Option PySem.Value) → PySem.Heap → Nat → PySem.Obj → PySem.Obj → Prop) ×' ((∀ x0 x1 x2 x3 x4, P1 x0 x1 x2 x3 x4) → (Pf.L0.D0.D1.D2.B0.zb.Z.1 vE0_0 vE0_1 vE0_2 vE0_3 vE0_4 vE0_5 vE0_6 vE0_7 IL h tk x1 d1 o1 x2 d2 o2)) := by
  apply PSigma.mk
  focus
    intro Hcut1
    intro G Y ho hg KX X V GL T B TE TW M hcd _ _ _ _ _ _ _ _ _ _ _ _ _ K0 hD hqk _ _ _ _ _ _ _ _ _ _ hI10 hL10 hm j1 j4 j5 j6 j7 y9z y8z _ _ _ _ _ i9z _ hm3 hks lo9 hall hrows q0 q1 q2 hbt _ _ _ _ _ _ F₅ offD N₅ hJ iv1 iv2 z1 z2 z3 z4 hx1d1 hx2d2 hx2d1 hx1d2 hdd hI1 hI2 hB2
    have hfill : (PySem.Challenge.rw_pf0148_01, hd.heap_39) = (PySem.Challenge.rw_pf0148_01, hd.heap_39) := rfl
    revert hfill
    k_fill
    intro hfill; clear hfill
    (k_steps)
    unfold Blocked
    refine' iter_lstL (vs := [.ref x1, .ref x2]) (nn := _) (MK2 wW IL x1 d1 x2 d2 10 10 _ _) ?zh ?zl ?zF ?zN ?zj ?zt ?zd
    case zF => k_asm
    case zN => k_asm
    case zh => rfl
    case zl => k_mem
    case zj => exact MK2.start iv1 iv2
    --YT
    case zt =>
      intro i v news₁ h tk I oI hv ho hl₁ hJ F₁ N₁
      match i, hv with
      | 0, hv =>
        obtain ⟨o1, o2, rfl, w1, w2, w3, w4⟩ := hJ
        obtain rfl : Value.ref x1 = v := by simpa using hv
        obtain ⟨tg, mm, TI, VI, rfl⟩ := w1
        (k_steps)
        unfold Blocked
        refine' turn_end ?ua ?ub ?uc ?ud ⟨?um, MK2.s0 ?v1 ?v2, ?un⟩
        case ua => k_asm
        case ub => k_asm
        case uc => walk_at "SUB"
        case v1 => exact InfD.of
        case v2 => exact w2
        case um => exact List.Mem.head _
        case ud => exact offU5 ho
        case un => exact fun z hz => if_neg hz
      | 1, hv =>
        obtain ⟨o1, o2, rfl, w1, w2, w3, w4⟩ := hJ
        obtain rfl : Value.ref x2 = v := by simpa using hv
        have w3 := w3 (by decide)
        obtain ⟨tg, mm, TI, VI, rfl⟩ := w2
        (k_steps)
        unfold Blocked
        refine' turn_end ?ua ?ub ?uc ?ud ⟨?um, MK2.s1 ?v1 ?v2, ?un⟩
        case ua => k_asm
        case ub => k_asm
        case uc => walk_at "SUB"
        case v1 => exact w3
        case v2 => exact InfD.of
        case um => exact List.Mem.head _
        case ud => exact offU3 ho
        case un => exact fun z hz => if_neg hz
      | n + 2, hv => simp at hv
    --YD
    case zd =>
      intro u₁ news₁ h tk hJ F₁ N₁
      obtain ⟨u1, u2, rfl, w1, w2, w3', w4'⟩ := hJ
      have w3 := w3' (by simp)
      have w4 := w4' (by simp)
      clear w3' w4'
      dsimp only
      (walk_at "CUT"; exact fun x0 x1 x2 x3 x4 Hcut1 => Hcut1 x0 x1 x2 x3 x4)
namespace R0
noncomputable def zu : (PySem.Str → Option PySem.Value) × PySem.Heap × Nat × PySem.Obj × PySem.Obj := eps ((fun _ => none), {}, 0, { cls := .none, data := .fields #[] }, { cls := .none, data := .fields #[] }) fun t => Pf.L0.D0.D1.D2.B0.E0.zb.Z.1 t.1 t.2.1 t.2.2.1 t.2.2.2.1 t.2.2.2.2
@[irreducible] noncomputable def u₁ : PySem.Str → Option PySem.Value := zu.1
@[irreducible] noncomputable def h : PySem.Heap := zu.2.1
@[irreducible] noncomputable def tk : Nat := zu.2.2.1
@[irreducible] noncomputable def u1 : PySem.Obj := zu.2.2.2.1
@[irreducible] noncomputable def u2 : PySem.Obj := zu.2.2.2.2
theorem zk : Pf.L0.D0.D1.D2.B0.E0.zb.Z.1 u₁ h tk u1 u2 → ∀ x0 x1 x2 x3 x4, Pf.L0.D0.D1.D2.B0.E0.zb.Z.1 x0 x1 x2 x3 x4 := by
  delta u₁ h tk u1 u2
  exact fun h x0 x1 x2 x3 x4 => all_eps (P := fun t => Pf.L0.D0.D1.D2.B0.E0.zb.Z.1 t.1 t.2.1 t.2.2.1 t.2.2.2.1 t.2.2.2.2) h (x0, x1, x2, x3, x4)
set_option maxHeartbeats 12000000 in
noncomputable def zb.Z : (P1 : PySem.Addr → PySem.Addr → (Nat → PySem.Tok) → (Nat → PySem.Value) → PySem.Heap → Nat → PySem.Heap → Nat → PySem.Addr → PySem.Addr → PySem.Addr → PySem.Addr → PySem.Addr → PySem.Obj → PySem.Tok → (Nat → PySem.Tok) → (Nat → PySem.Value) → PySem.Heap → Nat → (List (PySem.Addr × PySem.Obj)) → PySem.Tok → PySem.Obj → PySem.Obj → PySem.Heap → Nat → Prop) ×' ((∀ x0 x1 x2 x3 x4 x5 x6 x7 x8 x9 x10 x11 x12 x13 x14 x15 x16 x17 x18 x19 x20 x21 x22 x23 x24, P1 x0 x1 x2 x3 x4 x5 x6 x7 x8 x9 x10 x11 x12 x13 x14 x15 x16 x17 x18 x19 x20 x21 x22 x23 x24) → (Pf.L0.D0.D1.D2.B0.E0.zb.Z.1 u₁ h tk u1 u2)) := by
  apply PSigma.mk
  focus
    intro Hcut1
    intro G Y ho hg KX X V GL T B TE TW M hcd _ _ _ _ _ _ _ _ _ _ _ _ _ K0 hD hqk _ _ _ _ _ _ _ _ _ _ hI10 hL10 hm j1 j4 j5 j6 j7 y9z y8z _ _ _ _ _ i9z _ hm3 hks lo9 hall hrows q0 q1 q2 hbt _ _ _ _ _ _ _ offD N₅ hJ iv1 iv2 z1 z2 z3 z4 hx1d1 hx2d2 hx2d1 hx1d2 hdd hI1 hI2 hB2 F₁ N₁ w1 w2 w3 w4
    have hfill : (PySem.Challenge.rw_pf0148_01, hd.heap_39) = (PySem.Challenge.rw_pf0148_01, hd.heap_39) := rfl
    revert hfill
    k_fill
    intro hfill; clear hfill
    (k_steps; (all_goals (try ((with_reducible refine unheld ?_); (first | (refine' con_use ?k1_405 ?k2_405 ?k3_405 ?k4_405 ?k5_405 ?kK_405 ?kd_405 ?ku_405 (mk_buffer _ _ _ _ _ _ ) ?_; (case k1_405 => k_asm); (case k2_405 => k_asm); (case k3_405 => k_asm); (case k4_405 => k_asm); (case k5_405 => k_asm); (case kK_405 => first | exact rfl | assumption); (case kd_405 => ktr_room); (case ku_405 => ktr_units); k_whole;  intro x9z d9z TB9z VB9z u91z u92z h9z tk9z F9z N9z; (try dsimp only); (try k_fold)) | fin_once hold walk1 | fail); (try k_steps)))); (all_goals (try ((with_reducible refine unheld ?_); (first | (refine' con_use ?k1_406 ?k2_406 ?k3_406 ?k4_406 ?k5_406 ?kK_406 ?kd_406 ?ku_406 (c_nogdef _ _ _ _ _ ) ?_; (case k1_406 => k_asm); (case k2_406 => k_asm); (case k3_406 => k_asm); (case k4_406 => k_asm); (case k5_406 => k_asm); (case kK_406 => first | exact rfl | assumption); (case kd_406 => ktr_room); (case ku_406 => ktr_units); k_whole;  intro gd9z dd9z cl9z nd9z nc9z o9z t90z TG9z VG9z lo9z hd9z u91z u92z u93z u94z u95z h9z tk9z F9z N9z; (try dsimp only); (try k_fold)) | fin_once hold walk1 | fail); (try k_steps)))); (all_goals (try ((with_reducible refine unheld ?_); (first | (k_here; (first | (with_reducible show wpAny _ _ (call (Value.ref 674) _) _ _ _) | (with_reducible show wpAny _ _ (call (Value.ref 790) _) _ _ _) | (with_reducible show wpAny _ _ (call (Value.ref 166) _) _ _ _)); refine blk ?_) | fin_once hold walk1 | fail); (try k_steps)))))
    unfold Blocked
    obtain ⟨rest5, N5, hbuf, hgd, m1, m2, of1, of2, sb5⟩ := pack2 (by k_asm) (by with_reducible assumption) (by with_reducible assumption) (by repeat (first | exact List.forall_mem_nil _ | refine List.forall_mem_cons.mpr ⟨⟨by k_ne, by k_ne⟩, ?_⟩)) hx1d1 hx2d1 hx1d2 hx2d2 z2 hB2
    have sb6 : ∀ p ∈ base4, p ∈ rest5 := fun p hp => sb5 p (.tail _ (.tail _ (.tail _ (.tail _ hp))))
    refine' con_use ?B ?F ?X N5 ?T ?K ?d ?u (c_run2 q0 q1 q2 (hall.mono sb6) hbuf hgd (by show 2 ≤ 100; omega) rfl (by show (0 : Int) < 2; decide) (by show (0 : Int) + 1 < 2; decide) rfl rfl m1 m2 of1 of2 hdd w3 w4 ⟨rfl, rfl, rfl⟩ ⟨rfl, rfl, rfl⟩) ?_
    case B => k_asm
    case F => k_asm
    case X => k_asm
    case T => k_asm
    case K => first | exact rfl | assumption
    case d => ktr_room
    case u => ktr_units
    intro tt o1' o2' id1 id2 h9 tk9 F9 N9
    have hbt6 := sb6 _ hbt
    have hrows6 := hrows.mono sb6
    have FN := And.intro F9 N9
    clear N5 sb5 sb6 w1 w2 w3 w4 hbt hrows hall
    repeat (rename News _ _ _ _ => X; clear X)
    repeat (rename Fr _ _ _ _ => X; clear X)
    repeat (rename AllLt _ _ => X; clear X)
    repeat (rename _ < _ ∧ _ => X; clear X)
    obtain ⟨F9, N9⟩ := FN
    (try dsimp only)
    (walk_at "CUT"; exact fun x0 x1 x2 x3 x4 x5 x6 x7 x8 x9 x10 x11 x12 x13 x14 x15 x16 x17 x18 x19 x20 x21 x22 x23 x24 Hcut1 => Hcut1 x0 x1 x2 x3 x4 x5 x6 x7 x8 x9 x10 x11 x12 x13 x14 x15 x16 x17 x18 x19 x20 x21 x22 x23 x24)
namespace R1
noncomputable def zu : PySem.Addr × PySem.Addr × (Nat → PySem.Tok) × (Nat → PySem.Value) × PySem.Heap × Nat × PySem.Heap × Nat × PySem.Addr × PySem.Addr × PySem.Addr × PySem.Addr × PySem.Addr × PySem.Obj × PySem.Tok × (Nat → PySem.Tok) × (Nat → PySem.Value) × PySem.Heap × Nat × (List (PySem.Addr × PySem.Obj)) × PySem.Tok × PySem.Obj × PySem.Obj × PySem.Heap × Nat := eps (0, 0, (fun _ => 0), (fun _ => .none), {}, 0, {}, 0, 0, 0, 0, 0, 0, { cls := .none, data := .fields #[] }, 0, (fun _ => 0), (fun _ => .none), {}, 0, [], 0, { cls := .none, data := .fields #[] }, { cls := .none, data := .fields #[] }, {}, 0) fun t => Pf.L0.D0.D1.D2.B0.E0.R0.zb.Z.1 t.1 t.2.1 t.2.2.1 t.2.2.2.1 t.2.2.2.2.1 t.2.2.2.2.2.1 t.2.2.2.2.2.2.1 t.2.2.2.2.2.2.2.1 t.2.2.2.2.2.2.2.2.1 t.2.2.2.2.2.2.2.2.2.1 t.2.2.2.2.2.2.2.2.2.2.1 t.2.2.2.2.2.2.2.2.2.2.2.1 t.2.2.2.2.2.2.2.2.2.2.2.2.1 t.2.2.2.2.2.2.2.2.2.2.2.2.2.1 t.2.2.2.2.2.2.2.2.2.2.2.2.2.2.1 t.2.2.2.2.2.2.2.2.2.2.2.2.2.2.2.1 t.2.2.2.2.2.2.2.2.2.2.2.2.2.2.2.2.1 t.2.2.2.2.2.2.2.2.2.2.2.2.2.2.2.2.2.1 t.2.2.2.2.2.2.2.2.2.2.2.2.2.2.2.2.2.2.1 t.2.2.2.2.2.2.2.2.2.2.2.2.2.2.2.2.2.2.2.1 t.2.2.2.2.2.2.2.2.2.2.2.2.2.2.2.2.2.2.2.2.1 t.2.2.2.2.2.2.2.2.2.2.2.2.2.2.2.2.2.2.2.2.2.1 t.2.2.2.2.2.2.2.2.2.2.2.2.2.2.2.2.2.2.2.2.2.2.1 t.2.2.2.2.2.2.2.2.2.2.2.2.2.2.2.2.2.2.2.2.2.2.2.1 t.2.2.2.2.2.2.2.2.2.2.2.2.2.2.2.2.2.2.2.2.2.2.2.2
@[irreducible] noncomputable def x9z : PySem.Addr := zu.1
@[irreducible] noncomputable def d9z : PySem.Addr := zu.2.1
@[irreducible] noncomputable def TB9z : Nat → PySem.Tok := zu.2.2.1
@[irreducible] noncomputable def VB9z : Nat → PySem.Value := zu.2.2.2.1
@[irreducible] noncomputable def vR1_4 : PySem.Heap := zu.2.2.2.2.1
@[irreducible] noncomputable def vR1_5 : Nat := zu.2.2.2.2.2.1
@[irreducible] noncomputable def vR1_6 : PySem.Heap := zu.2.2.2.2.2.2.1
@[irreducible] noncomputable def tk : Nat := zu.2.2.2.2.2.2.2.1
@[irreducible] noncomputable def gd9z : PySem.Addr := zu.2.2.2.2.2.2.2.2.1
@[irreducible] noncomputable def dd9z : PySem.Addr := zu.2.2.2.2.2.2.2.2.2.1
@[irreducible] noncomputable def cl9z : PySem.Addr := zu.2.2.2.2.2.2.2.2.2.2.1
@[irreducible] noncomputable def nd9z : PySem.Addr := zu.2.2.2.2.2.2.2.2.2.2.2.1
@[irreducible] noncomputable def nc9z : PySem.Addr := zu.2.2.2.2.2.2.2.2.2.2.2.2.1
@[irreducible] noncomputable def o9z : PySem.Obj := zu.2.2.2.2.2.2.2.2.2.2.2.2.2.1
@[irreducible] noncomputable def t90z : PySem.Tok := zu.2.2.2.2.2.2.2.2.2.2.2.2.2.2.1
@[irreducible] noncomputable def TG9z : Nat → PySem.Tok := zu.2.2.2.2.2.2.2.2.2.2.2.2.2.2.2.1
@[irreducible] noncomputable def VG9z : Nat → PySem.Value := zu.2.2.2.2.2.2.2.2.2.2.2.2.2.2.2.2.1
@[irreducible] noncomputable def h9z : PySem.Heap := zu.2.2.2.2.2.2.2.2.2.2.2.2.2.2.2.2.2.1
@[irreducible] noncomputable def tk9z : Nat := zu.2.2.2.2.2.2.2.2.2.2.2.2.2.2.2.2.2.2.1
@[irreducible] noncomputable def rest5 : List (PySem.Addr × PySem.Obj) := zu.2.2.2.2.2.2.2.2.2.2.2.2.2.2.2.2.2.2.2.1
@[irreducible] noncomputable def tt : PySem.Tok := zu.2.2.2.2.2.2.2.2.2.2.2.2.2.2.2.2.2.2.2.2.1
@[irreducible] noncomputable def o1' : PySem.Obj := zu.2.2.2.2.2.2.2.2.2.2.2.2.2.2.2.2.2.2.2.2.2.1
@[irreducible] noncomputable def o2' : PySem.Obj := zu.2.2.2.2.2.2.2.2.2.2.2.2.2.2.2.2.2.2.2.2.2.2.1
@[irreducible] noncomputable def h9 : PySem.Heap := zu.2.2.2.2.2.2.2.2.2.2.2.2.2.2.2.2.2.2.2.2.2.2.2.1
@[irreducible] noncomputable def tk9 : Nat := zu.2.2.2.2.2.2.2.2.2.2.2.2.2.2.2.2.2.2.2.2.2.2.2.2
theorem zk : Pf.L0.D0.D1.D2.B0.E0.R0.zb.Z.1 x9z d9z TB9z VB9z vR1_4 vR1_5 vR1_6 tk gd9z dd9z cl9z nd9z nc9z o9z t90z TG9z VG9z h9z tk9z rest5 tt o1' o2' h9 tk9 → ∀ x0 x1 x2 x3 x4 x5 x6 x7 x8 x9 x10 x11 x12 x13 x14 x15 x16 x17 x18 x19 x20 x21 x22 x23 x24, Pf.L0.D0.D1.D2.B0.E0.R0.zb.Z.1 x0 x1 x2 x3 x4 x5 x6 x7 x8 x9 x10 x11 x12 x13 x14 x15 x16 x17 x18 x19 x20 x21 x22 x23 x24 := by
  delta x9z d9z TB9z VB9z vR1_4 vR1_5 vR1_6 tk gd9z dd9z cl9z nd9z nc9z o9z t90z TG9z VG9z h9z tk9z rest5 tt o1' o2' h9 tk9
  exact fun h x0 x1 x2 x3 x4 x5 x6 x7 x8 x9 x10 x11 x12 x13 x14 x15 x16 x17 x18 x19 x20 x21 x22 x23 x24 => all_eps (P := fun t => Pf.L0.D0.D1.D2.B0.E0.R0.zb.Z.1 t.1 t.2.1 t.2.2.1 t.2.2.2.1 t.2.2.2.2.1 t.2.2.2.2.2.1 t.2.2.2.2.2.2.1 t.2.2.2.2.2.2.2.1 t.2.2.2.2.2.2.2.2.1 t.2.2.2.2.2.2.2.2.2.1 t.2.2.2.2.2.2.2.2.2.2.1 t.2.2.2.2.2.2.2.2.2.2.2.1 t.2.2.2.2.2.2.2.2.2.2.2.2.1 t.2.2.2.2.2.2.2.2.2.2.2.2.2.1 t.2.2.2.2.2.2.2.2.2.2.2.2.2.2.1 t.2.2.2.2.2.2.2.2.2.2.2.2.2.2.2.1 t.2.2.2.2.2.2.2.2.2.2.2.2.2.2.2.2.1 t.2.2.2.2.2.2.2.2.2.2.2.2.2.2.2.2.2.1 t.2.2.2.2.2.2.2.2.2.2.2.2.2.2.2.2.2.2.1 t.2.2.2.2.2.2.2.2.2.2.2.2.2.2.2.2.2.2.2.1 t.2.2.2.2.2.2.2.2.2.2.2.2.2.2.2.2.2.2.2.2.1 t.2.2.2.2.2.2.2.2.2.2.2.2.2.2.2.2.2.2.2.2.2.1 t.2.2.2.2.2.2.2.2.2.2.2.2.2.2.2.2.2.2.2.2.2.2.1 t.2.2.2.2.2.2.2.2.2.2.2.2.2.2.2.2.2.2.2.2.2.2.2.1 t.2.2.2.2.2.2.2.2.2.2.2.2.2.2.2.2.2.2.2.2.2.2.2.2) h (x0, x1, x2, x3, x4, x5, x6, x7, x8, x9, x10, x11, x12, x13, x14, x15, x16, x17, x18, x19, x20, x21, x22, x23, x24)
set_option maxHeartbeats 12000000 in
noncomputable def zb.Z : (P1 : Nat → PySem.Addr → PySem.Heap → PySem.Heap → PySem.Tok → PySem.Tok → PySem.Heap → Nat → Int → Int → PySem.Addr → Nat → (Nat → PySem.Tok) → (Nat → PySem.Value) → Prop) ×' ((∀ x0 x1 x2 x3 x4 x5 x6 x7 x8 x9 x10 x11 x12 x13, P1 x0 x1 x2 x3 x4 x5 x6 x7 x8 x9 x10 x11 x12 x13) → (Pf.L0.D0.D1.D2.B0.E0.R0.zb.Z.1 x9z d9z TB9z VB9z vR1_4 vR1_5 vR1_6 tk gd9z dd9z cl9z nd9z nc9z o9z t90z TG9z VG9z h9z tk9z rest5 tt o1' o2' h9 tk9)) := by
  apply PSigma.mk
  focus
    intro Hcut1
    intro G Y ho hg KX X V GL T B TE TW M hcd _ _ _ _ _ _ _ _ _ _ _ _ _ K0 hD hqk _ _ _ _ _ _ _ _ _ _ hI10 hL10 hm j1 j4 j5 j6 j7 y9z y8z _ _ _ _ _ i9z _ hm3 hks lo9 q0 q1 q2 _ offD hJ iv1 iv2 z1 z2 z3 z4 hx1d1 hx2d2 hx2d1 hx1d2 hdd hI1 hI2 hB2 u91z u92z lo9z hd9z u91z u92z u93z u94z u95z hbuf hgd m1 m2 of1 of2 id1 id2 hbt6 hrows6 F9 N9
    have hfill : (PySem.Challenge.rw_pf0148_01, hd.heap_39) = (PySem.Challenge.rw_pf0148_01, hd.heap_39) := rfl
    revert hfill
    k_fill
    intro hfill; clear hfill
    (k_steps; (all_goals (try ((with_reducible refine unheld ?_); (first | (k_here; (first | (with_reducible show wpAny _ _ (newList [Value.ref _]) _ _ _) | (with_reducible show wpAny _ _ (newList [Value.int _ _, Value.int _ _]) _ _ _)); k_dflt (refine' lst_in ?k1_408 ?k2_408 ?k3_408 ?_; (case k1_408 => k_asm); (case k2_408 => k_asm); (case k3_408 => (exact Nat.le_of_ble_eq_true rfl))); intro D9z h9z F9z N9z u9z) | fin_once hold walk1 | fail); (try k_steps)))); (all_goals (try ((with_reducible refine unheld ?_); (first | (k_here; (first | (with_reducible show wpAny _ _ (call (Value.ref 674) _) _ _ _) | (with_reducible show wpAny _ _ (call (Value.ref 790) _) _ _ _) | (with_reducible show wpAny _ _ (call (Value.ref 166) _) _ _ _)); refine blk ?_) | fin_once hold walk1 | fail); (try k_steps)))))
    unfold Blocked
    refine' con_use ?B ?F ?X ?N ?T ?K ?d ?u ((walk_top q0 q1 q2).use ?hr ?ho) ?_
    case N => k_asm
    case hr => exact hrows6.mono fun p hp => .tail _ (.tail _ hp)
    case ho => with_reducible assumption
    case B => k_asm
    case F => k_asm
    case X => k_asm
    case T => k_asm
    case K => first | exact rfl | assumption
    case d => ktr_room
    case u => ktr_units
    intro ta tb h9 tk9 F9 N9
    have hk9 := F0_ok r0 r1 r2 0 (by decide) (by decide)
    generalize F0 r0 r1 r2 (0, 0) = kk at hk9 id1 id2 N9
    obtain ⟨ka, kb⟩ := kk
    obtain ⟨hk1, hk2, hk3⟩ := hk9
    dsimp only at hk1 hk2 hk3 id1 id2 N9
    refine hbuf.elim fun bd6 bc6 TB6 VB6 ym1 ym2 ym3 => ?_
    (try dsimp only)
    (walk_at "CUT"; exact fun x0 x1 x2 x3 x4 x5 x6 x7 x8 x9 x10 x11 x12 x13 Hcut1 => Hcut1 x0 x1 x2 x3 x4 x5 x6 x7 x8 x9 x10 x11 x12 x13)
namespace R2
noncomputable def zu : Nat × PySem.Addr × PySem.Heap × PySem.Heap × PySem.Tok × PySem.Tok × PySem.Heap × Nat × Int × Int × PySem.Addr × Nat × (Nat → PySem.Tok) × (Nat → PySem.Value) := eps (0, 0, {}, {}, 0, 0, {}, 0, 0, 0, 0, 0, (fun _ => 0), (fun _ => .none)) fun t => Pf.L0.D0.D1.D2.B0.E0.R0.R1.zb.Z.1 t.1 t.2.1 t.2.2.1 t.2.2.2.1 t.2.2.2.2.1 t.2.2.2.2.2.1 t.2.2.2.2.2.2.1 t.2.2.2.2.2.2.2.1 t.2.2.2.2.2.2.2.2.1 t.2.2.2.2.2.2.2.2.2.1 t.2.2.2.2.2.2.2.2.2.2.1 t.2.2.2.2.2.2.2.2.2.2.2.1 t.2.2.2.2.2.2.2.2.2.2.2.2.1 t.2.2.2.2.2.2.2.2.2.2.2.2.2
@[irreducible] noncomputable def tk : Nat := zu.1
@[irreducible] noncomputable def D9z : PySem.Addr := zu.2.1
@[irreducible] noncomputable def h9z : PySem.Heap := zu.2.2.1
@[irreducible] noncomputable def vR2_3 : PySem.Heap := zu.2.2.2.1
@[irreducible] noncomputable def ta : PySem.Tok := zu.2.2.2.2.1
@[irreducible] noncomputable def tb : PySem.Tok := zu.2.2.2.2.2.1
@[irreducible] noncomputable def h9 : PySem.Heap := zu.2.2.2.2.2.2.1
@[irreducible] noncomputable def tk9 : Nat := zu.2.2.2.2.2.2.2.1
@[irreducible] noncomputable def ka : Int := zu.2.2.2.2.2.2.2.2.1
@[irreducible] noncomputable def kb : Int := zu.2.2.2.2.2.2.2.2.2.1
@[irreducible] noncomputable def bd6 : PySem.Addr := zu.2.2.2.2.2.2.2.2.2.2.1
@[irreducible] noncomputable def bc6 : Nat := zu.2.2.2.2.2.2.2.2.2.2.2.1
@[irreducible] noncomputable def TB6 : Nat → PySem.Tok := zu.2.2.2.2.2.2.2.2.2.2.2.2.1
@[irreducible] noncomputable def VB6 : Nat → PySem.Value := zu.2.2.2.2.2.2.2.2.2.2.2.2.2
theorem zk : Pf.L0.D0.D1.D2.B0.E0.R0.R1.zb.Z.1 tk D9z h9z vR2_3 ta tb h9 tk9 ka kb bd6 bc6 TB6 VB6 → ∀ x0 x1 x2 x3 x4 x5 x6 x7 x8 x9 x10 x11 x12 x13, Pf.L0.D0.D1.D2.B0.E0.R0.R1.zb.Z.1 x0 x1 x2 x3 x4 x5 x6 x7 x8 x9 x10 x11 x12 x13 := by
  delta tk D9z h9z vR2_3 ta tb h9 tk9 ka kb bd6 bc6 TB6 VB6
  exact fun h x0 x1 x2 x3 x4 x5 x6 x7 x8 x9 x10 x11 x12 x13 => all_eps (P := fun t => Pf.L0.D0.D1.D2.B0.E0.R0.R1.zb.Z.1 t.1 t.2.1 t.2.2.1 t.2.2.2.1 t.2.2.2.2.1 t.2.2.2.2.2.1 t.2.2.2.2.2.2.1 t.2.2.2.2.2.2.2.1 t.2.2.2.2.2.2.2.2.1 t.2.2.2.2.2.2.2.2.2.1 t.2.2.2.2.2.2.2.2.2.2.1 t.2.2.2.2.2.2.2.2.2.2.2.1 t.2.2.2.2.2.2.2.2.2.2.2.2.1 t.2.2.2.2.2.2.2.2.2.2.2.2.2) h (x0, x1, x2, x3, x4, x5, x6, x7, x8, x9, x10, x11, x12, x13)
set_option maxHeartbeats 12000000 in
theorem zb : Pf.L0.D0.D1.D2.B0.E0.R0.R1.zb.Z.1 tk D9z h9z vR2_3 ta tb h9 tk9 ka kb bd6 bc6 TB6 VB6 := by
  intro G Y ho hg KX X V GL T B TE TW M hcd _ _ _ _ _ _ _ _ _ _ _ _ _ K0 hD hqk _ _ _ _ _ _ _ _ _ _ hI10 hL10 hm j1 j4 j5 j6 j7 y9z y8z _ _ _ _ _ i9z _ hm3 hks lo9 q0 q1 q2 _ offD hJ iv1 iv2 z1 z2 z3 z4 hx1d1 hx2d2 hx2d1 hx1d2 hdd hI1 hI2 hB2 u91z u92z lo9z hd9z u91z u92z u93z u94z u95z hbuf hgd m1 m2 of1 of2 hbt6 hrows6 u9z _ _ F9 id1 id2 N9 hk1 hk2 hk3 ym1 ym2 ym3
  have hfill : (PySem.Challenge.rw_pf0148_01, hd.heap_39) = (PySem.Challenge.rw_pf0148_01, hd.heap_39) := rfl
  revert hfill
  k_fill
  intro hfill; clear hfill
  (k_steps; (all_goals (try ((with_reducible refine unheld ?_); (first | (k_here; (first | (with_reducible show wpAny _ _ (call (Value.ref 674) _) _ _ _) | (with_reducible show wpAny _ _ (call (Value.ref 790) _) _ _ _) | (with_reducible show wpAny _ _ (call (Value.ref 166) _) _ _ _)); refine blk ?_) | fin_once hold walk1 | fail); (try k_steps)))))
  unfold Blocked
  refine' con_use ?B ?F ?X N9 ?T ?K ?d ?u (c_gl2 (hbuf.mono fun p hp => .tail _ (.tail _ (.tail _ hp))) (.tail _ (.tail _ (.tail _ m1))) (.tail _ (.tail _ (.tail _ m2))) (.tail _ (.head _)) (.tail _ (.tail _ (.head _))) id1 id2) ?_
  case B => k_asm
  case F => k_asm
  case X => k_asm
  case T => k_asm
  case K => first | exact rfl | assumption
  case d => ktr_room
  case u => ktr_units
  intro GL tc td ug h9 tk9 F9 N9
  (try dsimp only)
  (k_steps; (all_goals (try ((with_reducible refine unheld ?_); (first | fin_once hold walk1 | fail); (try k_steps)))); (all_goals (try ((with_reducible refine unheld ?_); (first | fin_once hold walk1 | fail); (try k_steps)))))
end R2
theorem zb : Pf.L0.D0.D1.D2.B0.E0.R0.zb.Z.1 x9z d9z TB9z VB9z vR1_4 vR1_5 vR1_6 tk gd9z dd9z cl9z nd9z nc9z o9z t90z TG9z VG9z h9z tk9z rest5 tt o1' o2' h9 tk9 := zb.Z.2 (R2.zk R2.zb)
end R1
theorem zb : Pf.L0.D0.D1.D2.B0.E0.zb.Z.1 u₁ h tk u1 u2 := zb.Z.2 (R1.zk R1.zb)
end R0
theorem zb : Pf.L0.D0.D1.D2.B0.zb.Z.1 vE0_0 vE0_1 vE0_2 vE0_3 vE0_4 vE0_5 vE0_6 vE0_7 IL h tk x1 d1 o1 x2 d2 o2 := zb.Z.2 (R0.zk R0.zb)
end E0
theorem zb : Pf.L0.D0.D1.D2.zb.Z.1 vB0_0 vB0_1 vB0_2 mp vB0_4 tk9 o9 vB0_7 vB0_8 t91z vB0_10 vB0_11 D9z vB0_13 x9z d9z TT9z h9z tk9z h9 base4 k0 k1 k2 := zb.Z.2 (E0.zk E0.zb)
end B0
namespace B1
noncomputable def zu : PySem.Addr × PySem.Heap × Nat × PySem.Addr × PySem.Heap × Nat × PySem.Obj × PySem.Addr × PySem.Addr × PySem.Tok × PySem.Heap × Nat × PySem.Addr × PySem.Heap × PySem.Addr × PySem.Addr × (Nat → PySem.Tok) × PySem.Heap × Nat × PySem.Heap × (List (PySem.Addr × PySem.Obj)) × PySem.Addr × PySem.Addr × PySem.Addr := eps (0, {}, 0, 0, {}, 0, { cls := .none, data := .fields #[] }, 0, 0, 0, {}, 0, 0, {}, 0, 0, (fun _ => 0), {}, 0, {}, [], 0, 0, 0) fun t => Pf.L0.D0.D1.D2.zb.Z.2.1 t.1 t.2.1 t.2.2.1 t.2.2.2.1 t.2.2.2.2.1 t.2.2.2.2.2.1 t.2.2.2.2.2.2.1 t.2.2.2.2.2.2.2.1 t.2.2.2.2.2.2.2.2.1 t.2.2.2.2.2.2.2.2.2.1 t.2.2.2.2.2.2.2.2.2.2.1 t.2.2.2.2.2.2.2.2.2.2.2.1 t.2.2.2.2.2.2.2.2.2.2.2.2.1 t.2.2.2.2.2.2.2.2.2.2.2.2.2.1 t.2.2.2.2.2.2.2.2.2.2.2.2.2.2.1 t.2.2.2.2.2.2.2.2.2.2.2.2.2.2.2.1 t.2.2.2.2.2.2.2.2.2.2.2.2.2.2.2.2.1 t.2.2.2.2.2.2.2.2.2.2.2.2.2.2.2.2.2.1 t.2.2.2.2.2.2.2.2.2.2.2.2.2.2.2.2.2.2.1 t.2.2.2.2.2.2.2.2.2.2.2.2.2.2.2.2.2.2.2.1 t.2.2.2.2.2.2.2.2.2.2.2.2.2.2.2.2.2.2.2.2.1 t.2.2.2.2.2.2.2.2.2.2.2.2.2.2.2.2.2.2.2.2.2.1 t.2.2.2.2.2.2.2.2.2.2.2.2.2.2.2.2.2.2.2.2.2.2.1 t.2.2.2.2.2.2.2.2.2.2.2.2.2.2.2.2.2.2.2.2.2.2.2
@[irreducible] noncomputable def vB1_0 : PySem.Addr := zu.1
@[irreducible] noncomputable def vB1_1 : PySem.Heap := zu.2.1
@[irreducible] noncomputable def vB1_2 : Nat := zu.2.2.1
@[irreducible] noncomputable def mp : PySem.Addr := zu.2.2.2.1
@[irreducible] noncomputable def vB1_4 : PySem.Heap := zu.2.2.2.2.1
@[irreducible] noncomputable def tk9 : Nat := zu.2.2.2.2.2.1
@[irreducible] noncomputable def o9 : PySem.Obj := zu.2.2.2.2.2.2.1
@[irreducible] noncomputable def vB1_7 : PySem.Addr := zu.2.2.2.2.2.2.2.1
@[irreducible] noncomputable def vB1_8 : PySem.Addr := zu.2.2.2.2.2.2.2.2.1
@[irreducible] noncomputable def t91z : PySem.Tok := zu.2.2.2.2.2.2.2.2.2.1
@[irreducible] noncomputable def vB1_10 : PySem.Heap := zu.2.2.2.2.2.2.2.2.2.2.1
@[irreducible] noncomputable def vB1_11 : Nat := zu.2.2.2.2.2.2.2.2.2.2.2.1
@[irreducible] noncomputable def D9z : PySem.Addr := zu.2.2.2.2.2.2.2.2.2.2.2.2.1
@[irreducible] noncomputable def vB1_13 : PySem.Heap := zu.2.2.2.2.2.2.2.2.2.2.2.2.2.1
@[irreducible] noncomputable def x9z : PySem.Addr := zu.2.2.2.2.2.2.2.2.2.2.2.2.2.2.1
@[irreducible] noncomputable def d9z : PySem.Addr := zu.2.2.2.2.2.2.2.2.2.2.2.2.2.2.2.1
@[irreducible] noncomputable def TT9z : Nat → PySem.Tok := zu.2.2.2.2.2.2.2.2.2.2.2.2.2.2.2.2.1
@[irreducible] noncomputable def h9z : PySem.Heap := zu.2.2.2.2.2.2.2.2.2.2.2.2.2.2.2.2.2.1
@[irreducible] noncomputable def tk9z : Nat := zu.2.2.2.2.2.2.2.2.2.2.2.2.2.2.2.2.2.2.1
@[irreducible] noncomputable def h9 : PySem.Heap := zu.2.2.2.2.2.2.2.2.2.2.2.2.2.2.2.2.2.2.2.1
@[irreducible] noncomputable def base4 : List (PySem.Addr × PySem.Obj) := zu.2.2.2.2.2.2.2.2.2.2.2.2.2.2.2.2.2.2.2.2.1
@[irreducible] noncomputable def k0 : PySem.Addr := zu.2.2.2.2.2.2.2.2.2.2.2.2.2.2.2.2.2.2.2.2.2.1
@[irreducible] noncomputable def k1 : PySem.Addr := zu.2.2.2.2.2.2.2.2.2.2.2.2.2.2.2.2.2.2.2.2.2.2.1
@[irreducible] noncomputable def k2 : PySem.Addr := zu.2.2.2.2.2.2.2.2.2.2.2.2.2.2.2.2.2.2.2.2.2.2.2
theorem zk : Pf.L0.D0.D1.D2.zb.Z.2.1 vB1_0 vB1_1 vB1_2 mp vB1_4 tk9 o9 vB1_7 vB1_8 t91z vB1_10 vB1_11 D9z vB1_13 x9z d9z TT9z h9z tk9z h9 base4 k0 k1 k2 → ∀ x0 x1 x2 x3 x4 x5 x6 x7 x8 x9 x10 x11 x12 x13 x14 x15 x16 x17 x18 x19 x20 x21 x22 x23, Pf.L0.D0.D1.D2.zb.Z.2.1 x0 x1 x2 x3 x4 x5 x6 x7 x8 x9 x10 x11 x12 x13 x14 x15 x16 x17 x18 x19 x20 x21 x22 x23 := by
  delta vB1_0 vB1_1 vB1_2 mp vB1_4 tk9 o9 vB1_7 vB1_8 t91z vB1_10 vB1_11 D9z vB1_13 x9z d9z TT9z h9z tk9z h9 base4 k0 k1 k2
  exact fun h x0 x1 x2 x3 x4 x5 x6 x7 x8 x9 x10 x11 x12 x13 x14 x15 x16 x17 x18 x19 x20 x21 x22 x23 => all_eps (P := fun t => Pf.L0.D0.D1.D2.zb.Z.2.1 t.1 t.2.1 t.2.2.1 t.2.2.2.1 t.2.2.2.2.1 t.2.2.2.2.2.1 t.2.2.2.2.2.2.1 t.2.2.2.2.2.2.2.1 t.2.2.2.2.2.2.2.2.1 t.2.2.2.2.2.2.2.2.2.1 t.2.2.2.2.2.2.2.2.2.2.1 t.2.2.2.2.2.2.2.2.2.2.2.1 t.2.2.2.2.2.2.2.2.2.2.2.2.1 t.2.2.2.2.2.2.2.2.2.2.2.2.2.1 t.2.2.2.2.2.2.2.2.2.2.2.2.2.2.1 t.2.2.2.2.2.2.2.2.2.2.2.2.2.2.2.1 t.2.2.2.2.2.2.2.2.2.2.2.2.2.2.2.2.1 t.2.2.2.2.2.2.2.2.2.2.2.2.2.2.2.2.2.1 t.2.2.2.2.2.2.2.2.2.2.2.2.2.2.2.2.2.2.1 t.2.2.2.2.2.2.2.2.2.2.2.2.2.2.2.2.2.2.2.1 t.2.2.2.2.2.2.2.2.2.2.2.2.2.2.2.2.2.2.2.2.1 t.2.2.2.2.2.2.2.2.2.2.2.2.2.2.2.2.2.2.2.2.2.1 t.2.2.2.2.2.2.2.2.2.2.2.2.2.2.2.2.2.2.2.2.2.2.1 t.2.2.2.2.2.2.2.2.2.2.2.2.2.2.2.2.2.2.2.2.2.2.2) h (x0, x1, x2, x3, x4, x5, x6, x7, x8, x9, x10, x11, x12, x13, x14, x15, x16, x17, x18, x19, x20, x21, x22, x23)
set_option maxHeartbeats 12000000 in
noncomputable def zb.Z : (P1 : PySem.Addr → PySem.Heap → PySem.Addr → PySem.Heap → PySem.Addr → PySem.Heap → PySem.Addr → PySem.Heap → PySem.Addr → PySem.Heap → Nat → PySem.Addr → PySem.Addr → PySem.Obj → PySem.Addr → PySem.Addr → PySem.Obj → PySem.Addr → PySem.Addr → PySem.Obj → Prop) ×' ((∀ x0 x1 x2 x3 x4 x5 x6 x7 x8 x9 x10 x11 x12 x13 x14 x15 x16 x17 x18 x19, P1 x0 x1 x2 x3 x4 x5 x6 x7 x8 x9 x10 x11 x12 x13 x14 x15 x16 x17 x18 x19) → (Pf.L0.D0.D1.D2.zb.Z.2.1 vB1_0 vB1_1 vB1_2 mp vB1_4 tk9 o9 vB1_7 vB1_8 t91z vB1_10 vB1_11 D9z vB1_13 x9z d9z TT9z h9z tk9z h9 base4 k0 k1 k2)) := by
  apply PSigma.mk
  focus
    intro Hcut1
    intro G Y ho hg KX X V GL T B TE TW M hcd _ _ _ _ _ _ _ _ _ _ _ _ _ K0 hD hqk _ _ _ _ _ _ _ _ _ _ hI10 hL10 hm j1 j4 j5 j6 j7 y9z y8z _ _ _ _ _ i9z _ hm3 hks lo9 hall hrows q0 q1 q2 F4 N4 hbt
    have hfill : (PySem.Challenge.rw_pf0148_01, hd.heap_39) = (PySem.Challenge.rw_pf0148_01, hd.heap_39) := rfl
    revert hfill
    k_fill
    intro hfill; clear hfill
    (k_steps; (all_goals (try ((with_reducible refine unheld ?_); (first | (k_here; lcp_look; k_dflt (refine enum_assign (_F₀ := by k_asm) (by rfl) (by with_unfolding_all rfl) (by with_unfolding_all rfl) (by decide) (by rfl) (by decide) (by rfl) (by rfl) (by decide) (by rfl) (by rfl) ?_)) | fin_once hold walk1 | fail); (try k_steps)))); (all_goals (try ((with_reducible refine unheld ?_); (first | fin_once hold walk1 | fail); (try k_steps)))); (all_goals (try ((with_reducible refine unheld ?_); (first | fin_once hold walk1 | fail); (try k_steps)))); (all_goals (try ((with_reducible refine unheld ?_); (first | (k_here; (with_reducible show wpAny _ _ (call (Value.type _) [Value.ref _]) (EnumSrc _ _ _ _ _ _ _ _ _ _ _ _ _ _) _ _); refine blk ?_) | fin_once hold walk1 | fail); (try k_steps)))))
    unfold Blocked
    dsimp only at hall
    refine enum_call (IJ wW _ [10, 5, 10]) rfl (by k_asm) (by k_asm) (by k_mem) (by exact Nat.le_of_ble_eq_true rfl) ?el IJ.start ?eR ?ef
    case el => exact fun i ys nx h => IM.sub h _ (List.Mem.head _)
    case eR =>
      intro g i x t ys nx e it C D oe oi oC m₂ h tk E' hv hJ hC hxa hxb F N off
      obtain ⟨gg, tg, rfl, hg⟩ := ints_get (ns := [10, 5, 10]) (.cons _ _ (.cons _ _ (.cons _ _ .nil))) (by simpa using hv)
      (k_steps; (all_goals (try ((with_reducible refine unheld ?_); (first | (refine' con_use ?k1_413 ?k2_413 ?k3_413 ?k4_413 ?k5_413 ?kK_413 ?kd_413 ?ku_413 (mk_info _ _ _ _ _ _ _ _ _ _ ) ?_; (case k1_413 => k_asm); (case k2_413 => k_asm); (case k3_413 => k_asm); (case k4_413 => k_asm); (case k5_413 => k_asm); (case kK_413 => first | exact rfl | assumption); (case kd_413 => ktr_room); (case ku_413 => ktr_units); k_whole;  intro x9z d9z o9z iv9z u91z u92z h9z tk9z F9z N9z; (try dsimp only); (try k_fold)) | fin_once hold walk1 | fail); (try k_steps)))))
      exact IJ.turn hg hJ off (by assumption) (by k_asm) (by k_asm) (by with_reducible assumption) (by with_reducible assumption)
    case ef =>
      intro IL h tk ys nx F₅ N₅ offD hJ
      obtain ⟨x1, d1, o1, x5, d5, o5, x2, d2, o2, rfl, rfl, iv1, iv5, iv2, z1, z2, z3, z4, z5, z6⟩ := IM.three (g1 := 10) (g2 := 5) (g3 := 10) hJ
      have hx1d1 : x1 ≠ d1 := news_ne N₅ (by k_mem) (by k_mem) iv1.inst_ne
      have hx2d2 : x2 ≠ d2 := news_ne N₅ (by k_mem) (by k_mem) iv2.inst_ne
      have hx2d1 : x2 ≠ d1 := (z5 _ (.tail _ (.tail _ (.tail _ (.head _))))).symm
      have hx1d2 : x1 ≠ d2 := z6 _ (.tail _ (.tail _ (.head _)))
      have hdd : d1 ≠ d2 := z6 _ (.tail _ (.tail _ (.tail _ (.head _))))
      have hx5d1 : x5 ≠ d1 := (z3 _ (.tail _ (.head _))).symm
      have hx5d2 : x5 ≠ d2 := z6 _ (.head _)
      have hd5d1 : d5 ≠ d1 := (z4 _ (.tail _ (.head _))).symm
      have hd5d2 : d5 ≠ d2 := z6 _ (.tail _ (.head _))
      have hx5d5 : x5 ≠ d5 := news_ne N₅ (by k_mem) (by k_mem) iv5.inst_ne
      have hI1 : d1 ≠ IL := offD (d1, o1) (by k_mem)
      have hI2 : d2 ≠ IL := offD (d2, o2) (by k_mem)
      have hI5 : d5 ≠ IL := offD (d5, o5) (by k_mem)
      have hx1d5 : x1 ≠ d5 := z4 _ (.head _)
      have hx2d5 : x2 ≠ d5 := (z5 _ (.tail _ (.head _))).symm
      have hB2 := fun p hp => z6 p (.tail _ (.tail _ (.tail _ (.tail _ hp))))
      have hB5 := fun p hp => z4 p (.tail _ (.tail _ hp))
      (try dsimp only at F₅)
      (try dsimp only)
      (walk_at "CUT"; exact fun x0 x1 x2 x3 x4 x5 x6 x7 x8 x9 x10 x11 x12 x13 x14 x15 x16 x17 x18 x19 Hcut1 => Hcut1 x0 x1 x2 x3 x4 x5 x6 x7 x8 x9 x10 x11 x12 x13 x14 x15 x16 x17 x18 x19)
namespace E1
noncomputable def zu : PySem.Addr × PySem.Heap × PySem.Addr × PySem.Heap × PySem.Addr × PySem.Heap × PySem.Addr × PySem.Heap × PySem.Addr × PySem.Heap × Nat × PySem.Addr × PySem.Addr × PySem.Obj × PySem.Addr × PySem.Addr × PySem.Obj × PySem.Addr × PySem.Addr × PySem.Obj := eps (0, {}, 0, {}, 0, {}, 0, {}, 0, {}, 0, 0, 0, { cls := .none, data := .fields #[] }, 0, 0, { cls := .none, data := .fields #[] }, 0, 0, { cls := .none, data := .fields #[] }) fun t => Pf.L0.D0.D1.D2.B1.zb.Z.1 t.1 t.2.1 t.2.2.1 t.2.2.2.1 t.2.2.2.2.1 t.2.2.2.2.2.1 t.2.2.2.2.2.2.1 t.2.2.2.2.2.2.2.1 t.2.2.2.2.2.2.2.2.1 t.2.2.2.2.2.2.2.2.2.1 t.2.2.2.2.2.2.2.2.2.2.1 t.2.2.2.2.2.2.2.2.2.2.2.1 t.2.2.2.2.2.2.2.2.2.2.2.2.1 t.2.2.2.2.2.2.2.2.2.2.2.2.2.1 t.2.2.2.2.2.2.2.2.2.2.2.2.2.2.1 t.2.2.2.2.2.2.2.2.2.2.2.2.2.2.2.1 t.2.2.2.2.2.2.2.2.2.2.2.2.2.2.2.2.1 t.2.2.2.2.2.2.2.2.2.2.2.2.2.2.2.2.2.1 t.2.2.2.2.2.2.2.2.2.2.2.2.2.2.2.2.2.2.1 t.2.2.2.2.2.2.2.2.2.2.2.2.2.2.2.2.2.2.2
@[irreducible] noncomputable def vE1_0 : PySem.Addr := zu.1
@[irreducible] noncomputable def vE1_1 : PySem.Heap := zu.2.1
@[irreducible] noncomputable def vE1_2 : PySem.Addr := zu.2.2.1
@[irreducible] noncomputable def vE1_3 : PySem.Heap := zu.2.2.2.1
@[irreducible] noncomputable def vE1_4 : PySem.Addr := zu.2.2.2.2.1
@[irreducible] noncomputable def vE1_5 : PySem.Heap := zu.2.2.2.2.2.1
@[irreducible] noncomputable def vE1_6 : PySem.Addr := zu.2.2.2.2.2.2.1
@[irreducible] noncomputable def vE1_7 : PySem.Heap := zu.2.2.2.2.2.2.2.1
@[irreducible] noncomputable def IL : PySem.Addr := zu.2.2.2.2.2.2.2.2.1
@[irreducible] noncomputable def h : PySem.Heap := zu.2.2.2.2.2.2.2.2.2.1
@[irreducible] noncomputable def tk : Nat := zu.2.2.2.2.2.2.2.2.2.2.1
@[irreducible] noncomputable def x1 : PySem.Addr := zu.2.2.2.2.2.2.2.2.2.2.2.1
@[irreducible] noncomputable def d1 : PySem.Addr := zu.2.2.2.2.2.2.2.2.2.2.2.2.1
@[irreducible] noncomputable def o1 : PySem.Obj := zu.2.2.2.2.2.2.2.2.2.2.2.2.2.1
@[irreducible] noncomputable def x5 : PySem.Addr := zu.2.2.2.2.2.2.2.2.2.2.2.2.2.2.1
@[irreducible] noncomputable def d5 : PySem.Addr := zu.2.2.2.2.2.2.2.2.2.2.2.2.2.2.2.1
@[irreducible] noncomputable def o5 : PySem.Obj := zu.2.2.2.2.2.2.2.2.2.2.2.2.2.2.2.2.1
@[irreducible] noncomputable def x2 : PySem.Addr := zu.2.2.2.2.2.2.2.2.2.2.2.2.2.2.2.2.2.1
@[irreducible] noncomputable def d2 : PySem.Addr := zu.2.2.2.2.2.2.2.2.2.2.2.2.2.2.2.2.2.2.1
@[irreducible] noncomputable def o2 : PySem.Obj := zu.2.2.2.2.2.2.2.2.2.2.2.2.2.2.2.2.2.2.2
theorem zk : Pf.L0.D0.D1.D2.B1.zb.Z.1 vE1_0 vE1_1 vE1_2 vE1_3 vE1_4 vE1_5 vE1_6 vE1_7 IL h tk x1 d1 o1 x5 d5 o5 x2 d2 o2 → ∀ x0 x1 x2 x3 x4 x5 x6 x7 x8 x9 x10 x11 x12 x13 x14 x15 x16 x17 x18 x19, Pf.L0.D0.D1.D2.B1.zb.Z.1 x0 x1 x2 x3 x4 x5 x6 x7 x8 x9 x10 x11 x12 x13 x14 x15 x16 x17 x18 x19 := by
  delta vE1_0 vE1_1 vE1_2 vE1_3 vE1_4 vE1_5 vE1_6 vE1_7 IL h tk x1 d1 o1 x5 d5 o5 x2 d2 o2
  exact fun h x0 x1 x2 x3 x4 x5 x6 x7 x8 x9 x10 x11 x12 x13 x14 x15 x16 x17 x18 x19 => all_eps (P := fun t => Pf.L0.D0.D1.D2.B1.zb.Z.1 t.1 t.2.1 t.2.2.1 t.2.2.2.1 t.2.2.2.2.1 t.2.2.2.2.2.1 t.2.2.2.2.2.2.1 t.2.2.2.2.2.2.2.1 t.2.2.2.2.2.2.2.2.1 t.2.2.2.2.2.2.2.2.2.1 t.2.2.2.2.2.2.2.2.2.2.1 t.2.2.2.2.2.2.2.2.2.2.2.1 t.2.2.2.2.2.2.2.2.2.2.2.2.1 t.2.2.2.2.2.2.2.2.2.2.2.2.2.1 t.2.2.2.2.2.2.2.2.2.2.2.2.2.2.1 t.2.2.2.2.2.2.2.2.2.2.2.2.2.2.2.1 t.2.2.2.2.2.2.2.2.2.2.2.2.2.2.2.2.1 t.2.2.2.2.2.2.2.2.2.2.2.2.2.2.2.2.2.1 t.2.2.2.2.2.2.2.2.2.2.2.2.2.2.2.2.2.2.1 t.2.2.2.2.2.2.2.2.2.2.2.2.2.2.2.2.2.2.2) h (x0, x1, x2, x3, x4, x5, x6, x7, x8, x9, x10, x11, x12, x13, x14, x15, x16, x17, x18, x19)
set_option maxHeartbeats 12000000 in
noncomputable def zb.Z : (P1 : (PySem.Str → Option PySem.Value) → PySem.Heap → Nat → PySem.Obj → PySem.Obj → PySem.Obj → Prop) ×' ((∀ x0 x1 x2 x3 x4 x5, P1 x0 x1 x2 x3 x4 x5) → (Pf.L0.D0.D1.D2.B1.zb.Z.1 vE1_0 vE1_1 vE1_2 vE1_3 vE1_4 vE1_5 vE1_6 vE1_7 IL h tk x1 d1 o1 x5 d5 o5 x2 d2 o2)) := by
  apply PSigma.mk
  focus
    intro Hcut1
    intro G Y ho hg KX X V GL T B TE TW M hcd _ _ _ _ _ _ _ _ _ _ _ _ _ K0 hD hqk _ _ _ _ _ _ _ _ _ _ hI10 hL10 hm j1 j4 j5 j6 j7 y9z y8z _ _ _ _ _ i9z _ hm3 hks lo9 hall hrows q0 q1 q2 hbt _ _ _ _ _ _ F₅ offD N₅ hJ iv1 iv5 iv2 z1 z2 z3 z4 z5 z6 hx1d1 hx2d2 hx2d1 hx1d2 hdd hx5d1 hx5d2 hd5d1 hd5d2 hx5d5 hI1 hI2 hI5 hx1d5 hx2d5 hB2 hB5
    have hfill : (PySem.Challenge.rw_pf0148_01, hd.heap_39) = (PySem.Challenge.rw_pf0148_01, hd.heap_39) := rfl
    revert hfill
    k_fill
    intro hfill; clear hfill
    (k_steps)
    unfold Blocked
    refine' iter_lstL (vs := [.ref x1, .ref x5, .ref x2]) (nn := _) (MK3 wW IL x1 d1 x5 d5 x2 d2 10 5 10 _ _) ?zh ?zl ?zF ?zN ?zj ?zt ?zd
    case zF => k_asm
    case zN => k_asm
    case zh => rfl
    case zl => k_mem
    case zj => exact MK3.start iv1 iv5 iv2
    --YT
    case zt =>
      intro i v news₁ h tk I oI hv ho hl₁ hJ F₁ N₁
      match i, hv with
      | 0, hv =>
        obtain ⟨o1, o2, o3, rfl, w1, w2, w3, w4, w5, w6⟩ := hJ
        obtain rfl : Value.ref x1 = v := by simpa using hv
        obtain ⟨tg, mm, TI, VI, rfl⟩ := w1
        (k_steps)
        unfold Blocked
        refine' turn_end ?ua ?ub ?uc ?ud ⟨?um, MK3.s0 ?v1 ?v2 ?v3, ?un⟩
        case ua => k_asm
        case ub => k_asm
        case uc => walk_at "SUB"
        case v1 => exact InfD.of
        case v2 => exact w2
        case v3 => exact w3
        case um => exact List.Mem.head _
        case ud => exact offU7 ho
        case un => exact fun z hz => if_neg hz
      | 1, hv =>
        obtain ⟨o1, o2, o3, rfl, w1, w2, w3, w4, w5, w6⟩ := hJ
        obtain rfl : Value.ref x5 = v := by simpa using hv
        have w4 := w4 (by decide)
        obtain ⟨tg, mm, TI, VI, rfl⟩ := w2
        (k_steps)
        unfold Blocked
        refine' turn_end ?ua ?ub ?uc ?ud ⟨?um, MK3.s1 ?v1 ?v2 ?v3, ?un⟩
        case ua => k_asm
        case ub => k_asm
        case uc => walk_at "SUB"
        case v1 => exact w4
        case v2 => exact InfD.of
        case v3 => exact w3
        case um => exact List.Mem.head _
        case ud => exact offU5 ho
        case un => exact fun z hz => if_neg hz
      | 2, hv =>
        obtain ⟨o1, o2, o3, rfl, w1, w2, w3, w4, w5, w6⟩ := hJ
        obtain rfl : Value.ref x2 = v := by simpa using hv
        have w4 := w4 (by decide)
        have w5 := w5 (by decide)
        obtain ⟨tg, mm, TI, VI, rfl⟩ := w3
        (k_steps)
        unfold Blocked
        refine' turn_end ?ua ?ub ?uc ?ud ⟨?um, MK3.s2 ?v1 ?v2 ?v3, ?un⟩
        case ua => k_asm
        case ub => k_asm
        case uc => walk_at "SUB"
        case v1 => exact w4
        case v2 => exact w5
        case v3 => exact InfD.of
        case um => exact List.Mem.head _
        case ud => exact offU3 ho
        case un => exact fun z hz => if_neg hz
      | n + 3, hv => simp at hv
    --YD
    case zd =>
      intro u₁ news₁ h tk hJ F₁ N₁
      obtain ⟨u1, u5, u2, rfl, w1, w2, w3, w4', w5', w6'⟩ := hJ
      have w4 := w4' (by simp)
      have hD5 := w5' (by simp)
      have w6 := w6' (by simp)
      clear w4' w5' w6'
      dsimp only
      (walk_at "CUT"; exact fun x0 x1 x2 x3 x4 x5 Hcut1 => Hcut1 x0 x1 x2 x3 x4 x5)
namespace R3
noncomputable def zu : (PySem.Str → Option PySem.Value) × PySem.Heap × Nat × PySem.Obj × PySem.Obj × PySem.Obj := eps ((fun _ => none), {}, 0, { cls := .none, data := .fields #[] }, { cls := .none, data := .fields #[] }, { cls := .none, data := .fields #[] }) fun t => Pf.L0.D0.D1.D2.B1.E1.zb.Z.1 t.1 t.2.1 t.2.2.1 t.2.2.2.1 t.2.2.2.2.1 t.2.2.2.2.2
@[irreducible] noncomputable def u₁ : PySem.Str → Option PySem.Value := zu.1
@[irreducible] noncomputable def h : PySem.Heap := zu.2.1
@[irreducible] noncomputable def tk : Nat := zu.2.2.1
@[irreducible] noncomputable def u1 : PySem.Obj := zu.2.2.2.1
@[irreducible] noncomputable def u5 : PySem.Obj := zu.2.2.2.2.1
@[irreducible] noncomputable def u2 : PySem.Obj := zu.2.2.2.2.2
theorem zk : Pf.L0.D0.D1.D2.B1.E1.zb.Z.1 u₁ h tk u1 u5 u2 → ∀ x0 x1 x2 x3 x4 x5, Pf.L0.D0.D1.D2.B1.E1.zb.Z.1 x0 x1 x2 x3 x4 x5 := by
  delta u₁ h tk u1 u5 u2
  exact fun h x0 x1 x2 x3 x4 x5 => all_eps (P := fun t => Pf.L0.D0.D1.D2.B1.E1.zb.Z.1 t.1 t.2.1 t.2.2.1 t.2.2.2.1 t.2.2.2.2.1 t.2.2.2.2.2) h (x0, x1, x2, x3, x4, x5)
set_option maxHeartbeats 12000000 in
noncomputable def zb.Z : (P1 : PySem.Addr → PySem.Addr → (Nat → PySem.Tok) → (Nat → PySem.Value) → PySem.Heap → Nat → PySem.Heap → Nat → PySem.Addr → PySem.Addr → PySem.Addr → PySem.Addr → PySem.Addr → PySem.Obj → PySem.Tok → (Nat → PySem.Tok) → (Nat → PySem.Value) → PySem.Heap → Nat → (List (PySem.Addr × PySem.Obj)) → PySem.Tok → PySem.Obj → PySem.Obj → PySem.Heap → Nat → Prop) ×' ((∀ x0 x1 x2 x3 x4 x5 x6 x7 x8 x9 x10 x11 x12 x13 x14 x15 x16 x17 x18 x19 x20 x21 x22 x23 x24, P1 x0 x1 x2 x3 x4 x5 x6 x7 x8 x9 x10 x11 x12 x13 x14 x15 x16 x17 x18 x19 x20 x21 x22 x23 x24) → (Pf.L0.D0.D1.D2.B1.E1.zb.Z.1 u₁ h tk u1 u5 u2)) := by
  apply PSigma.mk
  focus
    intro Hcut1
    intro G Y ho hg KX X V GL T B TE TW M hcd _ _ _ _ _ _ _ _ _ _ _ _ _ K0 hD hqk _ _ _ _ _ _ _ _ _ _ hI10 hL10 hm j1 j4 j5 j6 j7 y9z y8z _ _ _ _ _ i9z _ hm3 hks lo9 hall hrows q0 q1 q2 hbt _ _ _ _ _ _ _ offD N₅ hJ iv1 iv5 iv2 z1 z2 z3 z4 z5 z6 hx1d1 hx2d2 hx2d1 hx1d2 hdd hx5d1 hx5d2 hd5d1 hd5d2 hx5d5 hI1 hI2 hI5 hx1d5 hx2d5 hB2 hB5 F₁ N₁ w1 w2 w3 w4 hD5 w6
    have hfill : (PySem.Challenge.rw_pf0148_01, hd.heap_39) = (PySem.Challenge.rw_pf0148_01, hd.heap_39) := rfl
    revert hfill
    k_fill
    intro hfill; clear hfill
    (k_steps; (all_goals (try ((with_reducible refine unheld ?_); (first | (refine' con_use ?k1_414 ?k2_414 ?k3_414 ?k4_414 ?k5_414 ?kK_414 ?kd_414 ?ku_414 (mk_buffer _ _ _ _ _ _ ) ?_; (case k1_414 => k_asm); (case k2_414 => k_asm); (case k3_414 => k_asm); (case k4_414 => k_asm); (case k5_414 => k_asm); (case kK_414 => first | exact rfl | assumption); (case kd_414 => ktr_room); (case ku_414 => ktr_units); k_whole;  intro x9z d9z TB9z VB9z u91z u92z h9z tk9z F9z N9z; (try dsimp only); (try k_fold)) | fin_once hold walk1 | fail); (try k_steps)))); (all_goals (try ((with_reducible refine unheld ?_); (first | (refine' con_use ?k1_415 ?k2_415 ?k3_415 ?k4_415 ?k5_415 ?kK_415 ?kd_415 ?ku_415 (c_nogdef _ _ _ _ _ ) ?_; (case k1_415 => k_asm); (case k2_415 => k_asm); (case k3_415 => k_asm); (case k4_415 => k_asm); (case k5_415 => k_asm); (case kK_415 => first | exact rfl | assumption); (case kd_415 => ktr_room); (case ku_415 => ktr_units); k_whole;  intro gd9z dd9z cl9z nd9z nc9z o9z t90z TG9z VG9z lo9z hd9z u91z u92z u93z u94z u95z h9z tk9z F9z N9z; (try dsimp only); (try k_fold)) | fin_once hold walk1 | fail); (try k_steps)))); (all_goals (try ((with_reducible refine unheld ?_); (first | (k_here; (first | (with_reducible show wpAny _ _ (call (Value.ref 674) _) _ _ _) | (with_reducible show wpAny _ _ (call (Value.ref 790) _) _ _ _) | (with_reducible show wpAny _ _ (call (Value.ref 166) _) _ _ _)); refine blk ?_) | fin_once hold walk1 | fail); (try k_steps)))))
    unfold Blocked
    obtain ⟨rest5, N5, hbuf, hgd, m1, m2, m5, k5, of1, of2, sb5⟩ := pack3 (by k_asm) (by with_reducible assumption) (by with_reducible assumption) (by repeat (first | exact List.forall_mem_nil _ | refine List.forall_mem_cons.mpr ⟨⟨by k_ne, by k_ne⟩, ?_⟩)) hx1d1 hx2d1 hx1d2 hx2d2 z2 hB2
    have sb6 : ∀ p ∈ base4, p ∈ rest5 := fun p hp => sb5 p (.tail _ (.tail _ (.tail _ (.tail _ hp))))
    refine' con_use ?B ?F ?X N5 ?T ?K ?d ?u (c_run3 q0 q1 q2 (hall.mono sb6) hbuf hgd (by show 3 ≤ 100; omega) rfl (by show (0 : Int) < 3; decide) (by show (0 : Int) + 1 < 3; decide) (by show (0 : Int) + 1 + 1 < 3; decide) rfl rfl rfl m1 m5 k5 hD5 ⟨rfl, rfl, rfl⟩ m2 of1 of2 hdd w4 w6 ⟨rfl, rfl, rfl⟩ ⟨rfl, rfl, rfl⟩) ?_
    case B => k_asm
    case F => k_asm
    case X => k_asm
    case T => k_asm
    case K => first | exact rfl | assumption
    case d => ktr_room
    case u => ktr_units
    intro tt o1' o2' id1 id2 h9 tk9 F9 N9
    have hbt6 := sb6 _ hbt
    have hrows6 := hrows.mono sb6
    have FN := And.intro F9 N9
    clear N5 sb5 sb6 w1 w2 w3 w4 w6 hbt hrows hall
    repeat (rename News _ _ _ _ => X; clear X)
    repeat (rename Fr _ _ _ _ => X; clear X)
    repeat (rename AllLt _ _ => X; clear X)
    repeat (rename _ < _ ∧ _ => X; clear X)
    obtain ⟨F9, N9⟩ := FN
    (try dsimp only)
    (walk_at "CUT"; exact fun x0 x1 x2 x3 x4 x5 x6 x7 x8 x9 x10 x11 x12 x13 x14 x15 x16 x17 x18 x19 x20 x21 x22 x23 x24 Hcut1 => Hcut1 x0 x1 x2 x3 x4 x5 x6 x7 x8 x9 x10 x11 x12 x13 x14 x15 x16 x17 x18 x19 x20 x21 x22 x23 x24)
namespace R4
noncomputable def zu : PySem.Addr × PySem.Addr × (Nat → PySem.Tok) × (Nat → PySem.Value) × PySem.Heap × Nat × PySem.Heap × Nat × PySem.Addr × PySem.Addr × PySem.Addr × PySem.Addr × PySem.Addr × PySem.Obj × PySem.Tok × (Nat → PySem.Tok) × (Nat → PySem.Value) × PySem.Heap × Nat × (List (PySem.Addr × PySem.Obj)) × PySem.Tok × PySem.Obj × PySem.Obj × PySem.Heap × Nat := eps (0, 0, (fun _ => 0), (fun _ => .none), {}, 0, {}, 0, 0, 0, 0, 0, 0, { cls := .none, data := .fields #[] }, 0, (fun _ => 0), (fun _ => .none), {}, 0, [], 0, { cls := .none, data := .fields #[] }, { cls := .none, data := .fields #[] }, {}, 0) fun t => Pf.L0.D0.D1.D2.B1.E1.R3.zb.Z.1 t.1 t.2.1 t.2.2.1 t.2.2.2.1 t.2.2.2.2.1 t.2.2.2.2.2.1 t.2.2.2.2.2.2.1 t.2.2.2.2.2.2.2.1 t.2.2.2.2.2.2.2.2.1 t.2.2.2.2.2.2.2.2.2.1 t.2.2.2.2.2.2.2.2.2.2.1 t.2.2.2.2.2.2.2.2.2.2.2.1 t.2.2.2.2.2.2.2.2.2.2.2.2.1 t.2.2.2.2.2.2.2.2.2.2.2.2.2.1 t.2.2.2.2.2.2.2.2.2.2.2.2.2.2.1 t.2.2.2.2.2.2.2.2.2.2.2.2.2.2.2.1 t.2.2.2.2.2.2.2.2.2.2.2.2.2.2.2.2.1 t.2.2.2.2.2.2.2.2.2.2.2.2.2.2.2.2.2.1 t.2.2.2.2.2.2.2.2.2.2.2.2.2.2.2.2.2.2.1 t.2.2.2.2.2.2.2.2.2.2.2.2.2.2.2.2.2.2.2.1 t.2.2.2.2.2.2.2.2.2.2.2.2.2.2.2.2.2.2.2.2.1 t.2.2.2.2.2.2.2.2.2.2.2.2.2.2.2.2.2.2.2.2.2.1 t.2.2.2.2.2.2.2.2.2.2.2.2.2.2.2.2.2.2.2.2.2.2.1 t.2.2.2.2.2.2.2.2.2.2.2.2.2.2.2.2.2.2.2.2.2.2.2.1 t.2.2.2.2.2.2.2.2.2.2.2.2.2.2.2.2.2.2.2.2.2.2.2.2
@[irreducible] noncomputable def x9z : PySem.Addr := zu.1
@[irreducible] noncomputable def d9z : PySem.Addr := zu.2.1
@[irreducible] noncomputable def TB9z : Nat → PySem.Tok := zu.2.2.1
@[irreducible] noncomputable def VB9z : Nat → PySem.Value := zu.2.2.2.1
@[irreducible] noncomputable def vR4_4 : PySem.Heap := zu.2.2.2.2.1
@[irreducible] noncomputable def vR4_5 : Nat := zu.2.2.2.2.2.1
@[irreducible] noncomputable def vR4_6 : PySem.Heap := zu.2.2.2.2.2.2.1
@[irreducible] noncomputable def tk : Nat := zu.2.2.2.2.2.2.2.1
@[irreducible] noncomputable def gd9z : PySem.Addr := zu.2.2.2.2.2.2.2.2.1
@[irreducible] noncomputable def dd9z : PySem.Addr := zu.2.2.2.2.2.2.2.2.2.1
@[irreducible] noncomputable def cl9z : PySem.Addr := zu.2.2.2.2.2.2.2.2.2.2.1
@[irreducible] noncomputable def nd9z : PySem.Addr := zu.2.2.2.2.2.2.2.2.2.2.2.1
@[irreducible] noncomputable def nc9z : PySem.Addr := zu.2.2.2.2.2.2.2.2.2.2.2.2.1
@[irreducible] noncomputable def o9z : PySem.Obj := zu.2.2.2.2.2.2.2.2.2.2.2.2.2.1
@[irreducible] noncomputable def t90z : PySem.Tok := zu.2.2.2.2.2.2.2.2.2.2.2.2.2.2.1
@[irreducible] noncomputable def TG9z : Nat → PySem.Tok := zu.2.2.2.2.2.2.2.2.2.2.2.2.2.2.2.1
@[irreducible] noncomputable def VG9z : Nat → PySem.Value := zu.2.2.2.2.2.2.2.2.2.2.2.2.2.2.2.2.1
@[irreducible] noncomputable def h9z : PySem.Heap := zu.2.2.2.2.2.2.2.2.2.2.2.2.2.2.2.2.2.1
@[irreducible] noncomputable def tk9z : Nat := zu.2.2.2.2.2.2.2.2.2.2.2.2.2.2.2.2.2.2.1
@[irreducible] noncomputable def rest5 : List (PySem.Addr × PySem.Obj) := zu.2.2.2.2.2.2.2.2.2.2.2.2.2.2.2.2.2.2.2.1
@[irreducible] noncomputable def tt : PySem.Tok := zu.2.2.2.2.2.2.2.2.2.2.2.2.2.2.2.2.2.2.2.2.1
@[irreducible] noncomputable def o1' : PySem.Obj := zu.2.2.2.2.2.2.2.2.2.2.2.2.2.2.2.2.2.2.2.2.2.1
@[irreducible] noncomputable def o2' : PySem.Obj := zu.2.2.2.2.2.2.2.2.2.2.2.2.2.2.2.2.2.2.2.2.2.2.1
@[irreducible] noncomputable def h9 : PySem.Heap := zu.2.2.2.2.2.2.2.2.2.2.2.2.2.2.2.2.2.2.2.2.2.2.2.1
@[irreducible] noncomputable def tk9 : Nat := zu.2.2.2.2.2.2.2.2.2.2.2.2.2.2.2.2.2.2.2.2.2.2.2.2
theorem zk : Pf.L0.D0.D1.D2.B1.E1.R3.zb.Z.1 x9z d9z TB9z VB9z vR4_4 vR4_5 vR4_6 tk gd9z dd9z cl9z nd9z nc9z o9z t90z TG9z VG9z h9z tk9z rest5 tt o1' o2' h9 tk9 → ∀ x0 x1 x2 x3 x4 x5 x6 x7 x8 x9 x10 x11 x12 x13 x14 x15 x16 x17 x18 x19 x20 x21 x22 x23 x24, Pf.L0.D0.D1.D2.B1.E1.R3.zb.Z.1 x0 x1 x2 x3 x4 x5 x6 x7 x8 x9 x10 x11 x12 x13 x14 x15 x16 x17 x18 x19 x20 x21 x22 x23 x24 := by
  delta x9z d9z TB9z VB9z vR4_4 vR4_5 vR4_6 tk gd9z dd9z cl9z nd9z nc9z o9z t90z TG9z VG9z h9z tk9z rest5 tt o1' o2' h9 tk9
  exact fun h x0 x1 x2 x3 x4 x5 x6 x7 x8 x9 x10 x11 x12 x13 x14 x15 x16 x17 x18 x19 x20 x21 x22 x23 x24 => all_eps (P := fun t => Pf.L0.D0.D1.D2.B1.E1.R3.zb.Z.1 t.1 t.2.1 t.2.2.1 t.2.2.2.1 t.2.2.2.2.1 t.2.2.2.2.2.1 t.2.2.2.2.2.2.1 t.2.2.2.2.2.2.2.1 t.2.2.2.2.2.2.2.2.1 t.2.2.2.2.2.2.2.2.2.1 t.2.2.2.2.2.2.2.2.2.2.1 t.2.2.2.2.2.2.2.2.2.2.2.1 t.2.2.2.2.2.2.2.2.2.2.2.2.1 t.2.2.2.2.2.2.2.2.2.2.2.2.2.1 t.2.2.2.2.2.2.2.2.2.2.2.2.2.2.1 t.2.2.2.2.2.2.2.2.2.2.2.2.2.2.2.1 t.2.2.2.2.2.2.2.2.2.2.2.2.2.2.2.2.1 t.2.2.2.2.2.2.2.2.2.2.2.2.2.2.2.2.2.1 t.2.2.2.2.2.2.2.2.2.2.2.2.2.2.2.2.2.2.1 t.2.2.2.2.2.2.2.2.2.2.2.2.2.2.2.2.2.2.2.1 t.2.2.2.2.2.2.2.2.2.2.2.2.2.2.2.2.2.2.2.2.1 t.2.2.2.2.2.2.2.2.2.2.2.2.2.2.2.2.2.2.2.2.2.1 t.2.2.2.2.2.2.2.2.2.2.2.2.2.2.2.2.2.2.2.2.2.2.1 t.2.2.2.2.2.2.2.2.2.2.2.2.2.2.2.2.2.2.2.2.2.2.2.1 t.2.2.2.2.2.2.2.2.2.2.2.2.2.2.2.2.2.2.2.2.2.2.2.2) h (x0, x1, x2, x3, x4, x5, x6, x7, x8, x9, x10, x11, x12, x13, x14, x15, x16, x17, x18, x19, x20, x21, x22, x23, x24)
set_option maxHeartbeats 12000000 in
noncomputable def zb.Z : (P1 : Nat → PySem.Addr → PySem.Heap → PySem.Heap → PySem.Tok → PySem.Tok → PySem.Heap → Nat → Int → Int → PySem.Addr → Nat → (Nat → PySem.Tok) → (Nat → PySem.Value) → Prop) ×' ((∀ x0 x1 x2 x3 x4 x5 x6 x7 x8 x9 x10 x11 x12 x13, P1 x0 x1 x2 x3 x4 x5 x6 x7 x8 x9 x10 x11 x12 x13) → (Pf.L0.D0.D1.D2.B1.E1.R3.zb.Z.1 x9z d9z TB9z VB9z vR4_4 vR4_5 vR4_6 tk gd9z dd9z cl9z nd9z nc9z o9z t90z TG9z VG9z h9z tk9z rest5 tt o1' o2' h9 tk9)) := by
  apply PSigma.mk
  focus
    intro Hcut1
    intro G Y ho hg KX X V GL T B TE TW M hcd _ _ _ _ _ _ _ _ _ _ _ _ _ K0 hD hqk _ _ _ _ _ _ _ _ _ _ hI10 hL10 hm j1 j4 j5 j6 j7 y9z y8z _ _ _ _ _ i9z _ hm3 hks lo9 q0 q1 q2 _ offD hJ iv1 iv5 iv2 z1 z2 z3 z4 z5 z6 hx1d1 hx2d2 hx2d1 hx1d2 hdd hx5d1 hx5d2 hd5d1 hd5d2 hx5d5 hI1 hI2 hI5 hx1d5 hx2d5 hB2 hB5 hD5 u91z u92z lo9z hd9z u91z u92z u93z u94z u95z hbuf hgd m1 m2 m5 k5 of1 of2 id1 id2 hbt6 hrows6 F9 N9
    have hfill : (PySem.Challenge.rw_pf0148_01, hd.heap_39) = (PySem.Challenge.rw_pf0148_01, hd.heap_39) := rfl
    revert hfill
    k_fill
    intro hfill; clear hfill
    (k_steps; (all_goals (try ((with_reducible refine unheld ?_); (first | (k_here; (first | (with_reducible show wpAny _ _ (newList [Value.ref _]) _ _ _) | (with_reducible show wpAny _ _ (newList [Value.int _ _, Value.int _ _]) _ _ _)); k_dflt (refine' lst_in ?k1_417 ?k2_417 ?k3_417 ?_; (case k1_417 => k_asm); (case k2_417 => k_asm); (case k3_417 => (exact Nat.le_of_ble_eq_true rfl))); intro D9z h9z F9z N9z u9z) | fin_once hold walk1 | fail); (try k_steps)))); (all_goals (try ((with_reducible refine unheld ?_); (first | (k_here; (first | (with_reducible show wpAny _ _ (call (Value.ref 674) _) _ _ _) | (with_reducible show wpAny _ _ (call (Value.ref 790) _) _ _ _) | (with_reducible show wpAny _ _ (call (Value.ref 166) _) _ _ _)); refine blk ?_) | fin_once hold walk1 | fail); (try k_steps)))))
    unfold Blocked
    refine' con_use ?B ?F ?X ?N ?T ?K ?d ?u ((walk_top q0 q1 q2).use ?hr ?ho) ?_
    case N => k_asm
    case hr => exact hrows6.mono fun p hp => .tail _ (.tail _ hp)
    case ho => with_reducible assumption
    case B => k_asm
    case F => k_asm
    case X => k_asm
    case T => k_asm
    case K => first | exact rfl | assumption
    case d => ktr_room
    case u => ktr_units
    intro ta tb h9 tk9 F9 N9
    have hk9 := F0_ok r0 r1 r2 0 (by decide) (by decide)
    generalize F0 r0 r1 r2 (0, 0) = kk at hk9 id1 id2 N9
    obtain ⟨ka, kb⟩ := kk
    obtain ⟨hk1, hk2, hk3⟩ := hk9
    dsimp only at hk1 hk2 hk3 id1 id2 N9
    refine hbuf.elim fun bd6 bc6 TB6 VB6 ym1 ym2 ym3 => ?_
    (try dsimp only)
    (walk_at "CUT"; exact fun x0 x1 x2 x3 x4 x5 x6 x7 x8 x9 x10 x11 x12 x13 Hcut1 => Hcut1 x0 x1 x2 x3 x4 x5 x6 x7 x8 x9 x10 x11 x12 x13)
namespace R5
noncomputable def zu : Nat × PySem.Addr × PySem.Heap × PySem.Heap × PySem.Tok × PySem.Tok × PySem.Heap × Nat × Int × Int × PySem.Addr × Nat × (Nat → PySem.Tok) × (Nat → PySem.Value) := eps (0, 0, {}, {}, 0, 0, {}, 0, 0, 0, 0, 0, (fun _ => 0), (fun _ => .none)) fun t => Pf.L0.D0.D1.D2.B1.E1.R3.R4.zb.Z.1 t.1 t.2.1 t.2.2.1 t.2.2.2.1 t.2.2.2.2.1 t.2.2.2.2.2.1 t.2.2.2.2.2.2.1 t.2.2.2.2.2.2.2.1 t.2.2.2.2.2.2.2.2.1 t.2.2.2.2.2.2.2.2.2.1 t.2.2.2.2.2.2.2.2.2.2.1 t.2.2.2.2.2.2.2.2.2.2.2.1 t.2.2.2.2.2.2.2.2.2.2.2.2.1 t.2.2.2.2.2.2.2.2.2.2.2.2.2
@[irreducible] noncomputable def tk : Nat := zu.1
@[irreducible] noncomputable def D9z : PySem.Addr := zu.2.1
@[irreducible] noncomputable def h9z : PySem.Heap := zu.2.2.1
@[irreducible] noncomputable def vR5_3 : PySem.Heap := zu.2.2.2.1
@[irreducible] noncomputable def ta : PySem.Tok := zu.2.2.2.2.1
@[irreducible] noncomputable def tb : PySem.Tok := zu.2.2.2.2.2.1
@[irreducible] noncomputable def h9 : PySem.Heap := zu.2.2.2.2.2.2.1
@[irreducible] noncomputable def tk9 : Nat := zu.2.2.2.2.2.2.2.1
@[irreducible] noncomputable def ka : Int := zu.2.2.2.2.2.2.2.2.1
@[irreducible] noncomputable def kb : Int := zu.2.2.2.2.2.2.2.2.2.1
@[irreducible] noncomputable def bd6 : PySem.Addr := zu.2.2.2.2.2.2.2.2.2.2.1
@[irreducible] noncomputable def bc6 : Nat := zu.2.2.2.2.2.2.2.2.2.2.2.1
@[irreducible] noncomputable def TB6 : Nat → PySem.Tok := zu.2.2.2.2.2.2.2.2.2.2.2.2.1
@[irreducible] noncomputable def VB6 : Nat → PySem.Value := zu.2.2.2.2.2.2.2.2.2.2.2.2.2
theorem zk : Pf.L0.D0.D1.D2.B1.E1.R3.R4.zb.Z.1 tk D9z h9z vR5_3 ta tb h9 tk9 ka kb bd6 bc6 TB6 VB6 → ∀ x0 x1 x2 x3 x4 x5 x6 x7 x8 x9 x10 x11 x12 x13, Pf.L0.D0.D1.D2.B1.E1.R3.R4.zb.Z.1 x0 x1 x2 x3 x4 x5 x6 x7 x8 x9 x10 x11 x12 x13 := by
  delta tk D9z h9z vR5_3 ta tb h9 tk9 ka kb bd6 bc6 TB6 VB6
  exact fun h x0 x1 x2 x3 x4 x5 x6 x7 x8 x9 x10 x11 x12 x13 => all_eps (P := fun t => Pf.L0.D0.D1.D2.B1.E1.R3.R4.zb.Z.1 t.1 t.2.1 t.2.2.1 t.2.2.2.1 t.2.2.2.2.1 t.2.2.2.2.2.1 t.2.2.2.2.2.2.1 t.2.2.2.2.2.2.2.1 t.2.2.2.2.2.2.2.2.1 t.2.2.2.2.2.2.2.2.2.1 t.2.2.2.2.2.2.2.2.2.2.1 t.2.2.2.2.2.2.2.2.2.2.2.1 t.2.2.2.2.2.2.2.2.2.2.2.2.1 t.2.2.2.2.2.2.2.2.2.2.2.2.2) h (x0, x1, x2, x3, x4, x5, x6, x7, x8, x9, x10, x11, x12, x13)
set_option maxHeartbeats 12000000 in
theorem zb : Pf.L0.D0.D1.D2.B1.E1.R3.R4.zb.Z.1 tk D9z h9z vR5_3 ta tb h9 tk9 ka kb bd6 bc6 TB6 VB6 := by
  intro G Y ho hg KX X V GL T B TE TW M hcd _ _ _ _ _ _ _ _ _ _ _ _ _ K0 hD hqk _ _ _ _ _ _ _ _ _ _ hI10 hL10 hm j1 j4 j5 j6 j7 y9z y8z _ _ _ _ _ i9z _ hm3 hks lo9 q0 q1 q2 _ offD hJ iv1 iv5 iv2 z1 z2 z3 z4 z5 z6 hx1d1 hx2d2 hx2d1 hx1d2 hdd hx5d1 hx5d2 hd5d1 hd5d2 hx5d5 hI1 hI2 hI5 hx1d5 hx2d5 hB2 hB5 hD5 u91z u92z lo9z hd9z u91z u92z u93z u94z u95z hbuf hgd m1 m2 m5 k5 of1 of2 hbt6 hrows6 u9z _ _ F9 id1 id2 N9 hk1 hk2 hk3 ym1 ym2 ym3
  have hfill : (PySem.Challenge.rw_pf0148_01, hd.heap_39) = (PySem.Challenge.rw_pf0148_01, hd.heap_39) := rfl
  revert hfill
  k_fill
  intro hfill; clear hfill
  (k_steps; (all_goals (try ((with_reducible refine unheld ?_); (first | (k_here; (first | (with_reducible show wpAny _ _ (call (Value.ref 674) _) _ _ _) | (with_reducible show wpAny _ _ (call (Value.ref 790) _) _ _ _) | (with_reducible show wpAny _ _ (call (Value.ref 166) _) _ _ _)); refine blk ?_) | fin_once hold walk1 | fail); (try k_steps)))))
  unfold Blocked
  refine' con_use ?B ?F ?X N9 ?T ?K ?d ?u (c_gl3 (hbuf.mono fun p hp => .tail _ (.tail _ (.tail _ hp))) (.tail _ (.tail _ (.tail _ m1))) (.tail _ (.tail _ (.tail _ m5))) (.tail _ (.tail _ (.tail _ m2))) (.tail _ (.head _)) (.tail _ (.tail _ (.tail _ k5))) (.tail _ (.tail _ (.head _))) id1 hD5 id2) ?_
  case B => k_asm
  case F => k_asm
  case X => k_asm
  case T => k_asm
  case K => first | exact rfl | assumption
  case d => ktr_room
  case u => ktr_units
  intro GL tc td te ug h9 tk9 F9 N9
  (try dsimp only)
  (k_steps; (all_goals (try ((with_reducible refine unheld ?_); (first | fin_once hold walk1 | fail); (try k_steps)))); (all_goals (try ((with_reducible refine unheld ?_); (first | fin_once hold walk1 | fail); (try k_steps)))))
end R5
theorem zb : Pf.L0.D0.D1.D2.B1.E1.R3.zb.Z.1 x9z d9z TB9z VB9z vR4_4 vR4_5 vR4_6 tk gd9z dd9z cl9z nd9z nc9z o9z t90z TG9z VG9z h9z tk9z rest5 tt o1' o2' h9 tk9 := zb.Z.2 (R5.zk R5.zb)
end R4
theorem zb : Pf.L0.D0.D1.D2.B1.E1.zb.Z.1 u₁ h tk u1 u5 u2 := zb.Z.2 (R4.zk R4.zb)
end R3
theorem zb : Pf.L0.D0.D1.D2.B1.zb.Z.1 vE1_0 vE1_1 vE1_2 vE1_3 vE1_4 vE1_5 vE1_6 vE1_7 IL h tk x1 d1 o1 x5 d5 o5 x2 d2 o2 := zb.Z.2 (R3.zk R3.zb)
end E1
theorem zb : Pf.L0.D0.D1.D2.zb.Z.2.1 vB1_0 vB1_1 vB1_2 mp vB1_4 tk9 o9 vB1_7 vB1_8 t91z vB1_10 vB1_11 D9z vB1_13 x9z d9z TT9z h9z tk9z h9 base4 k0 k1 k2 := zb.Z.2 (E1.zk E1.zb)
end B1
theorem zb : Pf.L0.D0.D1.zb.Z.1 d9z h9z tk9z t9z u9z v9z g2 ys nr kvs := zb.Z.2.2 (B0.zk B0.zb) (B1.zk B1.zb)
end D2
theorem zb : Pf.L0.D0.zb.Z.2.1 vD1_0 vD1_1 z9z vD1_3 t8z vD1_5 vD1_6 vD1_7 vD1_8 vD1_9 vD1_10 vD1_11 vD1_12 vD1_13 vD1_14 vD1_15 u9z v9z cov9z cd9z gt9z gvs9z t9z vD1_23 vD1_24 vD1_25 vD1_26 vD1_27 vD1_28 vD1_29 x9z d9z t91z h9z tk9z vD1_35 vD1_36 vD1_37 vD1_38 base m₃ h tk rest3 ks c' := zb.Z.2 (D2.zk D2.zb)
end D1
theorem zb : Pf.L0.zb.Z.2.2.2.1 vD0_0 vD0_1 vD0_2 vD0_3 ys vD0_5 vD0_6 vD0_7 vD0_8 vD0_9 vD0_10 vD0_11 vD0_12 vD0_13 vD0_14 vD0_15 vD0_16 vD0_17 vD0_18 ns9 m₁ h tk rest c c2 c3 t' a0 r0 a1 r1 a2 r2 := zb.Z.2.2 (Y0.zk Y0.zb) (D1.zk D1.zb)
end D0
theorem zb : Pf.lawT.Z.2.1 wW s₀ s₁ mg mb fa o pm doc kV vL0_10 vL0_11 vL0_12 vL0_13 vL0_14 vL0_15 vL0_16 vL0_17 vL0_18 vL0_19 vL0_20 qk := zb.Z.2.2.2.2 (T0.zk T0.zb) (T1.zk T1.zb) (T2.zk T2.zb) (D0.zk D0.zb)
end L0
theorem lawT : PySem.Challenge.rw_pf0148_01.Holds := lawT.Z.2.2 trivial (L0.zk L0.zb)
end
end Pf
theorem PySem.Challenge.cw_pf0148_01_holds : PySem.Challenge.rw_pf0148_01.Holds :=
  Pf.lawT
