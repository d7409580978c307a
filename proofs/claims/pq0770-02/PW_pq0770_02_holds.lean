import PyProof.Rows.All
import Wide.All
import OpenK.AllK
import Wide.FinOn
import PySem.Challenge.RW_pq0770_02
set_option Elab.async false
set_option maxRecDepth 100000
set_option maxHeartbeats 8000000
set_option genSizeOf false
set_option genInjectivity false
set_option bootstrap.genMatcherCode false
set_option linter.unusedSimpArgs false
set_option linter.unusedVariables false
namespace Mine
section
open PySem PySem.W PyProof.Rows PySem.Calls
set_option backward.match.sparseCases false
noncomputable def st (i : Nat) : Stmt := (PySem.Challenge.pw_pq0770_02.main.body[i]?).getD (.Pass default)
noncomputable def me (i j : Nat) : Stmt := match st i with | .ClassDef _ _ _ b .. => (b[j]?).getD (.Pass default) | s => s
noncomputable def sA : Stmt → Arguments | .FunctionDef _ a .. => a | _ => default
noncomputable def sB : Stmt → List Stmt | .FunctionDef _ _ b .. => b | _ => []
noncomputable def sS : Stmt → Scope | .FunctionDef _ _ _ _ _ _ s .. => s | _ => default
noncomputable def e0 : Obj := { cls := .type "tuple", data := .seq #[] }
noncomputable def f0 : Obj := { cls := .none, data := .fields #[] }
noncomputable def tv (l : Array Value) : Obj := { cls := .type "tuple", data := .seq l }
noncomputable def tuL (k : Nat) : List Str → List Value | [] => [] | s :: r => .str s k :: tuL (k + 1) r
noncomputable def tu (k : Nat) (l : List Str) : Obj := { cls := .type "tuple", data := .seq ⟨tuL k l⟩ }
noncomputable def fo (s : Stmt) (n q m : Str) (mt c : Nat) (d : Value) : Obj := { cls := .type "function", data := .func { name := n, qualname := q, params := sA s, body := .stmts (sB s), scope := sS s, globals := 3, closure := [], defaults := d, kwdefaults := .none, pyModule := .str m mt, code := .ref c } }
noncomputable def fp (s : Stmt) (n q : Str) : Obj := { cls := .none, data := .func { name := n, qualname := q, params := sA s, body := .stmts (sB s), scope := sS s, globals := 0, closure := [], defaults := .none, kwdefaults := .none } }
noncomputable def co (n q : Str) (t i3 i4 i7 u : Nat) (a b c d e f g : Value) : Obj := { cls := .type "code", data := .fields #[.str n t, .str q (t + 1), .str "/claim/cut.py" (t + 2), .int i3 0, .int i4 0, .int 0 0, .int 0 0, .int i7 0, a, b, .int 181 0, c, d, e, f, g, .int u 0, .int i3 0, .str "/claim/cut.py" (u + 1)] }
noncomputable def de (P : Params) (n : Str) (t : Nat) (v : Value) : DictEntry := { hash := PyData.keyHash P n, key := .str n t, val := v }
noncomputable def nsL (P : Params) (v : Value) : List DictEntry := [de P "__name__" 165 v, de P "__doc__" 166 (.none), de P "__package__" 167 (.none), de P "__loader__" 168 (.builtin "__main__.__loader__#opaque"), de P "__spec__" 169 (.none), de P "__annotations__" 170 (.ref 6), de P "__builtins__" 171 (.ref 4), de P "__file__" 173 (.str "/claim/cut.py" 172), de P "__cached__" 174 (.none), de P "LEAST" 191 (.int (-2147483648) 190), de P "GREATEST" 193 (.int 2147483647 192), de P "full" 199 (.ref 21), de P "single" 206 (.ref 28), de P "clipped" 215 (.ref 35), de P "add" 223 (.ref 42), de P "sub" 231 (.ref 49), de P "mul" 240 (.ref 56), de P "neg" 247 (.ref 63), de P "absolute" 254 (.ref 70), de P "div" 265 (.ref 77), de P "mod" 275 (.ref 84), de P "within" 283 (.ref 91), de P "join" 291 (.ref 98), de P "widen" 301 (.ref 105), de P "meet" 311 (.ref 112), de P "below" 322 (.ref 119), de P "without" 330 (.ref 126), de P "apart" 340 (.ref 133), de P "narrow" 351 (.ref 140), de P "opposite" 358 (.ref 147), de P "Ranges" 394 (.ref 164), de P "join_envs" 404 (.ref 175), de P "env_within" 413 (.ref 182), de P "with_slot" 423 (.ref 189), de P "followed_slot" 431 (.ref 196), de P "type_range" 438 (.ref 203), de P "known" 445 (.ref 210), de P "mark" 454 (.ref 217), de P "look_arithmetic" 468 (.ref 224), de P "look_index" 480 (.ref 231), de P "look_std" 486 (.ref 236), de P "look_lazy" 496 (.ref 243), de P "look" 508 (.ref 250), de P "quiet" 519 (.ref 257), de P "assume_relation" 537 (.ref 264), de P "both_ways" 550 (.ref 271), de P "assume" 560 (.ref 278), de P "Node" 600 (.ref 296), de P "ProcTree" 635 (.ref 317), de P "nodes_of" 646 (.ref 328), de P "ROUNDS" 650 (.int 2 649), de P "MOST_LOOPS" 652 (.int 2 651), de P "widen_env" 662 (.ref 335), de P "run_assign" 673 (.ref 342), de P "run_step" 687 (.ref 349), de P "run_std" 697 (.ref 356), de P "run_arms" 710 (.ref 363), de P "run_if" 721 (.ref 370), de P "turn_of" 730 (.ref 377), de P "for_turn" 747 (.ref 384), de P "quiet_turn" 758 (.ref 391), de P "written_slots" 771 (.ref 398), de P "loosened" 782 (.ref 405), de P "run_loop" 792 (.ref 412), de P "loop_head" 804 (.ref 419), de P "run_for" 815 (.ref 426), de P "label_hull" 825 (.ref 433), de P "run_case" 843 (.ref 440), de P "run_typecase" 854 (.ref 447), de P "run" 865 (.ref 454), de P "taken_slots" 878 (.ref 461), de P "named_slots" 889 (.ref 468), de P "followed_slots" 900 (.ref 475), de P "analyse" 911 (.ref 482), de P "Type" 955 (.ref 499), de P "Obj" 1000 (.ref 520), de P "Types" 1059 (.ref 556), de P "_law_bead" 1069 (.ref 567), de P "_law_var" 1079 (.ref 574), de P "_law_const" 1087 (.ref 581), de P "_law_loops_right" 1093 (.ref 586), de P "_law_holds" 1103 (.ref 593), de P "_law_conditions_right" 1109 (.ref 598), de P "law" 1117 (.ref 605)]
noncomputable def ns (P : Params) (m : Nat) (v : Value) : Obj := { cls := .type "dict", data := .dict ⟨(nsL P v).take m⟩ m }
noncomputable def tabL : List (Nat × Nat) := [(4, 20), (6, 27), (8, 34), (15, 41), (17, 48), (19, 55), (22, 62), (24, 69), (30, 76), (37, 83), (47, 90), (49, 97), (51, 104), (55, 111), (61, 118), (69, 125), (77, 132), (83, 139), (93, 146), (96, 153), (104, 174), (113, 181), (120, 188), (124, 195), (128, 202), (132, 209), (134, 216), (137, 223), (147, 230), (154, 235), (165, 242), (171, 249), (191, 256), (197, 263), (214, 270), (232, 277), (235, 284), (244, 306), (254, 327), (269, 334), (274, 341), (281, 348), (290, 355), (298, 362), (308, 369), (314, 376), (324, 383), (340, 390), (346, 397), (358, 404), (363, 411), (370, 418), (381, 425), (388, 432), (393, 439), (411, 446), (417, 453), (441, 460), (451, 467), (459, 474), (468, 481), (478, 488), (493, 509), (510, 530), (538, 566), (543, 573), (549, 580), (551, 585), (594, 592), (602, 597), (628, 604)]
noncomputable def tab12 (m : Nat) : Obj := { cls := .none, data := .fields ⟨(tabL.take m).flatMap fun p => [.int p.1 0, .int 0 0, .ref p.2]⟩ }
noncomputable def o13 : Obj := { cls := .type "code", data := .fields #[.str "<module>" 182, .str "<module>" 183, .str "/claim/cut.py" 184, .int 1 0, .int 0 0, .int 0 0, .int 0 0, .int 0 0, .ref 11, .bool false, .int 181 0, .ref 12, .none, .none, .none, .none, .int 185 0, .int 1 0, .str "/claim/cut.py" 186] }
noncomputable def o14 : Obj := { cls := .type "frame", slots := #[some (.ref 13), some (.ref 3), some (.ref 3), none, some (.str "__main__" 164), none, some (.ref 0)] }
noncomputable def hL (P : Params) : List Obj := [
 boot_o_0 P,
 boot_o_1 P,
 boot_o_2 P,
 ns P 84 (.str "law_pq0770_02" 1060),
 boot_o_4 P,
 boot_o_5 P,
 boot_o_6 P,
 boot_o_7 P,
 boot_o_8 P,
 boot_o_9 P,
 boot_o_10 P,
 e0,
 tab12 71,
 o13,
 o14,
 e0,
 f0,
 e0,
 e0,
 fp (st 3) "full" "full",
 co "full" "full" 194 4 0 3 197 (.ref 15) (.bool true) (.ref 16) .none (.ref 17) (.ref 18) (.ref 19),
 fo (st 3) "full" "full" "moduleyard.intervals" 187 20 .none,
 e0,
 f0,
 tu 203 ["n"],
 e0,
 fp (st 4) "single" "single",
 co "single" "single" 200 6 1 3 204 (.ref 22) (.bool true) (.ref 23) .none (.ref 24) (.ref 25) (.ref 26),
 fo (st 4) "single" "single" "moduleyard.intervals" 187 27 .none,
 e0,
 f0,
 tu 210 ["low", "high", "beyond"],
 e0,
 fp (st 5) "clipped" "clipped",
 co "clipped" "clipped" 207 8 2 3 213 (.ref 29) (.bool true) (.ref 30) .none (.ref 31) (.ref 32) (.ref 33),
 fo (st 5) "clipped" "clipped" "moduleyard.intervals" 187 34 .none,
 e0,
 f0,
 tu 219 ["x", "y"],
 e0,
 fp (st 6) "add" "add",
 co "add" "add" 216 15 2 3 221 (.ref 36) (.bool true) (.ref 37) .none (.ref 38) (.ref 39) (.ref 40),
 fo (st 6) "add" "add" "moduleyard.intervals" 187 41 .none,
 e0,
 f0,
 tu 227 ["x", "y"],
 e0,
 fp (st 7) "sub" "sub",
 co "sub" "sub" 224 17 2 3 229 (.ref 43) (.bool true) (.ref 44) .none (.ref 45) (.ref 46) (.ref 47),
 fo (st 7) "sub" "sub" "moduleyard.intervals" 187 48 .none,
 e0,
 f0,
 tu 235 ["x", "y", "ends"],
 e0,
 fp (st 8) "mul" "mul",
 co "mul" "mul" 232 19 2 3 238 (.ref 50) (.bool true) (.ref 51) .none (.ref 52) (.ref 53) (.ref 54),
 fo (st 8) "mul" "mul" "moduleyard.intervals" 187 55 .none,
 e0,
 f0,
 tu 244 ["x"],
 e0,
 fp (st 9) "neg" "neg",
 co "neg" "neg" 241 22 1 3 245 (.ref 57) (.bool true) (.ref 58) .none (.ref 59) (.ref 60) (.ref 61),
 fo (st 9) "neg" "neg" "moduleyard.intervals" 187 62 .none,
 e0,
 f0,
 tu 251 ["x"],
 e0,
 fp (st 10) "absolute" "absolute",
 co "absolute" "absolute" 248 24 1 3 252 (.ref 64) (.bool true) (.ref 65) .none (.ref 66) (.ref 67) (.ref 68),
 fo (st 10) "absolute" "absolute" "moduleyard.intervals" 187 69 .none,
 e0,
 f0,
 tu 258 ["x", "y", "traps", "low", "ends"],
 e0,
 fp (st 11) "div" "div",
 co "div" "div" 255 30 2 3 263 (.ref 71) (.bool true) (.ref 72) .none (.ref 73) (.ref 74) (.ref 75),
 fo (st 11) "div" "div" "moduleyard.intervals" 187 76 .none,
 e0,
 f0,
 tu 269 ["x", "y", "traps", "high"],
 e0,
 fp (st 12) "mod" "mod",
 co "mod" "mod" 266 37 2 3 273 (.ref 78) (.bool true) (.ref 79) .none (.ref 80) (.ref 81) (.ref 82),
 fo (st 12) "mod" "mod" "moduleyard.intervals" 187 83 .none,
 e0,
 f0,
 tu 279 ["x", "y"],
 e0,
 fp (st 13) "within" "within",
 co "within" "within" 276 47 2 3 281 (.ref 85) (.bool true) (.ref 86) .none (.ref 87) (.ref 88) (.ref 89),
 fo (st 13) "within" "within" "moduleyard.intervals" 187 90 .none,
 e0,
 f0,
 tu 287 ["x", "y"],
 e0,
 fp (st 14) "join" "join",
 co "join" "join" 284 49 2 3 289 (.ref 92) (.bool true) (.ref 93) .none (.ref 94) (.ref 95) (.ref 96),
 fo (st 14) "join" "join" "moduleyard.intervals" 187 97 .none,
 e0,
 f0,
 tu 295 ["older", "newer", "low", "high"],
 e0,
 fp (st 15) "widen" "widen",
 co "widen" "widen" 292 51 2 3 299 (.ref 99) (.bool true) (.ref 100) .none (.ref 101) (.ref 102) (.ref 103),
 fo (st 15) "widen" "widen" "moduleyard.intervals" 187 104 .none,
 e0,
 f0,
 tu 305 ["x", "y", "low", "high"],
 e0,
 fp (st 16) "meet" "meet",
 co "meet" "meet" 302 55 2 3 309 (.ref 106) (.bool true) (.ref 107) .none (.ref 108) (.ref 109) (.ref 110),
 fo (st 16) "meet" "meet" "moduleyard.intervals" 187 111 .none,
 e0,
 f0,
 tu 315 ["x", "y", "gap", "left", "right"],
 e0,
 fp (st 17) "below" "below",
 co "below" "below" 312 61 3 3 320 (.ref 113) (.bool true) (.ref 114) .none (.ref 115) (.ref 116) (.ref 117),
 fo (st 17) "below" "below" "moduleyard.intervals" 187 118 .none,
 e0,
 f0,
 tu 326 ["x", "n"],
 e0,
 fp (st 18) "without" "without",
 co "without" "without" 323 69 2 3 328 (.ref 120) (.bool true) (.ref 121) .none (.ref 122) (.ref 123) (.ref 124),
 fo (st 18) "without" "without" "moduleyard.intervals" 187 125 .none,
 e0,
 f0,
 tu 334 ["x", "y", "left", "right"],
 e0,
 fp (st 19) "apart" "apart",
 co "apart" "apart" 331 77 2 3 338 (.ref 127) (.bool true) (.ref 128) .none (.ref 129) (.ref 130) (.ref 131),
 fo (st 19) "apart" "apart" "moduleyard.intervals" 187 132 .none,
 e0,
 f0,
 tu 344 ["op", "x", "y", "both", "turned"],
 e0,
 fp (st 20) "narrow" "narrow",
 co "narrow" "narrow" 341 83 3 3 349 (.ref 134) (.bool true) (.ref 135) .none (.ref 136) (.ref 137) (.ref 138),
 fo (st 20) "narrow" "narrow" "moduleyard.intervals" 187 139 .none,
 e0,
 f0,
 tu 355 ["op"],
 e0,
 fp (st 21) "opposite" "opposite",
 co "opposite" "opposite" 352 93 1 3 356 (.ref 141) (.bool true) (.ref 142) .none (.ref 143) (.ref 144) (.ref 145),
 fo (st 21) "opposite" "opposite" "moduleyard.intervals" 187 146 .none,
 e0,
 { cls := .type "builtin_function_or_method", data := .fields #[.builtin "type.__prepare__", .type "type"] },
 { cls := .type "dict", data := .dict #[de P "__module__" 368 (.str "moduleyard.ranges" 359), de P "__qualname__" 370 (.str "Ranges" 369), de P "__firstlineno__" 372 (.int 96 371), de P "__init__" 381 (.ref 161), de P "__static_attributes__" 387 (.ref 162)] 5 },
 e0,
 { cls := .none, data := .fields #[.int 98 0, .int 4 0, .ref 160] },
 co "Ranges" "Ranges" 363 96 0 0 366 (.ref 151) (.bool false) (.ref 152) .none .none .none .none,
 { cls := .type "frame", slots := #[some (.ref 153), some (.ref 3), some (.ref 150), none, some (.str "moduleyard.ranges" 359), none, some (.ref 0)] },
 e0,
 f0,
 tu 376 ["self", "level", "slots"],
 e0,
 fp (me 23 0) "__init__" "Ranges.__init__",
 co "__init__" "Ranges.__init__" 373 98 3 3 379 (.ref 155) (.bool true) (.ref 156) .none (.ref 157) (.ref 158) (.ref 159),
 fo (me 23 0) "__init__" "Ranges.__init__" "moduleyard.ranges" 359 160 .none,
 tu 382 ["level", "loops", "marking", "slots", "written"],
 { cls := .type "dict", data := .dict #[de P "__module__" 368 (.str "moduleyard.ranges" 359), de P "__firstlineno__" 372 (.int 96 371), de P "__init__" 381 (.ref 161), de P "__static_attributes__" 387 (.ref 162), de P "__dict__" 389 (.ref 165), de P "__weakref__" 391 (.ref 166), de P "__doc__" 392 (.none)] 4 },
 { cls := .type "type", data := .cls { name := "Ranges", bases := [.type "object"], mro := [.ref 164, .type "object"], ns := 163, qualname := "Ranges" }, slots := #[none, none, some (.str "Ranges" 361), some (.str "Ranges" 369), some (.builtin "object.__new__"), some (.bool true)] },
 { cls := .type "getset_descriptor", data := .fields #[.str "__dict__" 388, .ref 164, .builtin "function.__dict__", .builtin "function.__dict__#set"] },
 { cls := .type "getset_descriptor", data := .fields #[.str "__weakref__" 390, .ref 164, .builtin "ExceptionGroup.__weakref__", .none] },
 { cls := .type "super", data := .fields #[.ref 164, .ref 164, .ref 164] },
 { cls := .type "builtin_function_or_method", data := .fields #[.builtin "object.__init_subclass__", .ref 164] },
 e0,
 f0,
 tu 398 ["a", "b", "found", "slot"],
 e0,
 fp (st 24) "join_envs" "join_envs",
 co "join_envs" "join_envs" 395 104 2 3 402 (.ref 169) (.bool true) (.ref 170) .none (.ref 171) (.ref 172) (.ref 173),
 fo (st 24) "join_envs" "join_envs" "moduleyard.ranges" 359 174 .none,
 e0,
 f0,
 tu 408 ["a", "b", "slot"],
 e0,
 fp (st 25) "env_within" "env_within",
 co "env_within" "env_within" 405 113 2 3 411 (.ref 176) (.bool true) (.ref 177) .none (.ref 178) (.ref 179) (.ref 180),
 fo (st 25) "env_within" "env_within" "moduleyard.ranges" 359 181 .none,
 e0,
 f0,
 tu 417 ["env", "slot", "interval", "found"],
 e0,
 fp (st 26) "with_slot" "with_slot",
 co "with_slot" "with_slot" 414 120 3 3 421 (.ref 183) (.bool true) (.ref 184) .none (.ref 185) (.ref 186) (.ref 187),
 fo (st 26) "with_slot" "with_slot" "moduleyard.ranges" 359 188 .none,
 e0,
 f0,
 tu 427 ["st", "node"],
 e0,
 fp (st 27) "followed_slot" "followed_slot",
 co "followed_slot" "followed_slot" 424 124 2 3 429 (.ref 190) (.bool true) (.ref 191) .none (.ref 192) (.ref 193) (.ref 194),
 fo (st 27) "followed_slot" "followed_slot" "moduleyard.ranges" 359 195 .none,
 e0,
 f0,
 tu 435 ["t"],
 e0,
 fp (st 28) "type_range" "type_range",
 co "type_range" "type_range" 432 128 1 3 436 (.ref 197) (.bool true) (.ref 198) .none (.ref 199) (.ref 200) (.ref 201),
 fo (st 28) "type_range" "type_range" "moduleyard.ranges" 359 202 .none,
 e0,
 f0,
 tu 442 ["interval"],
 e0,
 fp (st 29) "known" "known",
 co "known" "known" 439 132 1 3 443 (.ref 204) (.bool true) (.ref 205) .none (.ref 206) (.ref 207) (.ref 208),
 fo (st 29) "known" "known" "moduleyard.ranges" 359 209 .none,
 e0,
 f0,
 tu 449 ["st", "node", "traps"],
 e0,
 fp (st 30) "mark" "mark",
 co "mark" "mark" 446 134 3 3 452 (.ref 211) (.bool true) (.ref 212) .none (.ref 213) (.ref 214) (.ref 215),
 fo (st 30) "mark" "mark" "moduleyard.ranges" 359 216 .none,
 e0,
 f0,
 tu 458 ["st", "env", "node", "x", "found", "traps", "y", "steps"],
 e0,
 fp (st 31) "look_arithmetic" "look_arithmetic",
 co "look_arithmetic" "look_arithmetic" 455 137 3 3 466 (.ref 218) (.bool true) (.ref 219) .none (.ref 220) (.ref 221) (.ref 222),
 fo (st 31) "look_arithmetic" "look_arithmetic" "moduleyard.ranges" 359 223 .none,
 e0,
 f0,
 tu 472 ["st", "env", "node", "place", "length", "inside"],
 e0,
 fp (st 32) "look_index" "look_index",
 co "look_index" "look_index" 469 147 3 3 478 (.ref 225) (.bool true) (.ref 226) .none (.ref 227) (.ref 228) (.ref 229),
 fo (st 32) "look_index" "look_index" "moduleyard.ranges" 359 230 .none,
 e0,
 f0,
 fp (st 33) "look_std" "look_std",
 co "look_std" "look_std" 481 154 3 3 484 (.ref 232) (.bool true) (.ref 233) .none .none .none (.ref 234),
 fo (st 33) "look_std" "look_std" "moduleyard.ranges" 359 235 .none,
 e0,
 f0,
 tu 490 ["st", "env", "node", "inner"],
 e0,
 fp (st 34) "look_lazy" "look_lazy",
 co "look_lazy" "look_lazy" 487 165 3 3 494 (.ref 237) (.bool true) (.ref 238) .none (.ref 239) (.ref 240) (.ref 241),
 fo (st 34) "look_lazy" "look_lazy" "moduleyard.ranges" 359 242 .none,
 e0,
 f0,
 tu 500 ["st", "env", "node", "op", "slot", "kid"],
 e0,
 fp (st 35) "look" "look",
 co "look" "look" 497 171 3 3 506 (.ref 244) (.bool true) (.ref 245) .none (.ref 246) (.ref 247) (.ref 248),
 fo (st 35) "look" "look" "moduleyard.ranges" 359 249 .none,
 e0,
 f0,
 tu 512 ["st", "env", "node", "kept", "found"],
 e0,
 fp (st 36) "quiet" "quiet",
 co "quiet" "quiet" 509 191 3 3 517 (.ref 251) (.bool true) (.ref 252) .none (.ref 253) (.ref 254) (.ref 255),
 fo (st 36) "quiet" "quiet" "moduleyard.ranges" 359 256 .none,
 e0,
 f0,
 tu 523 ["st", "env", "node", "truth", "left", "right", "x", "y", "parts", "place", "slot", "part"],
 e0,
 fp (st 37) "assume_relation" "assume_relation",
 co "assume_relation" "assume_relation" 520 197 4 3 535 (.ref 258) (.bool true) (.ref 259) .none (.ref 260) (.ref 261) (.ref 262),
 fo (st 37) "assume_relation" "assume_relation" "moduleyard.ranges" 359 263 .none,
 e0,
 f0,
 tu 541 ["st", "env", "node", "held", "failed", "met", "inner"],
 e0,
 fp (st 38) "both_ways" "both_ways",
 co "both_ways" "both_ways" 538 214 3 3 548 (.ref 265) (.bool true) (.ref 266) .none (.ref 267) (.ref 268) (.ref 269),
 fo (st 38) "both_ways" "both_ways" "moduleyard.ranges" 359 270 .none,
 e0,
 f0,
 tu 554 ["st", "env", "node", "truth"],
 e0,
 fp (st 39) "assume" "assume",
 co "assume" "assume" 551 232 4 3 558 (.ref 272) (.bool true) (.ref 273) .none (.ref 274) (.ref 275) (.ref 276),
 fo (st 39) "assume" "assume" "moduleyard.ranges" 359 277 .none,
 e0,
 { cls := .type "builtin_function_or_method", data := .fields #[.builtin "type.__prepare__", .type "type"] },
 { cls := .type "dict", data := .dict #[de P "__module__" 570 (.str "moduleyard.trees" 561), de P "__qualname__" 572 (.str "Node" 571), de P "__firstlineno__" 574 (.int 235 573), de P "__init__" 586 (.ref 293), de P "__static_attributes__" 593 (.ref 294)] 5 },
 e0,
 { cls := .none, data := .fields #[.int 237 0, .int 4 0, .ref 292] },
 co "Node" "Node" 565 235 0 0 568 (.ref 282) (.bool false) (.ref 283) .none .none .none .none,
 { cls := .type "frame", slots := #[some (.ref 284), some (.ref 3), some (.ref 281), none, some (.str "moduleyard.trees" 561), none, some (.ref 0)] },
 tv #[.none],
 e0,
 f0,
 tu 578 ["self", "op", "place", "type_of", "kids", "value"],
 e0,
 fp (me 41 0) "__init__" "Node.__init__",
 co "__init__" "Node.__init__" 575 237 6 3 584 (.ref 287) (.bool true) (.ref 288) .none (.ref 289) (.ref 290) (.ref 291),
 fo (me 41 0) "__init__" "Node.__init__" "moduleyard.trees" 561 292 (.ref 286),
 tu 587 ["kids", "op", "place", "sure", "type", "value"],
 { cls := .type "dict", data := .dict #[de P "__module__" 570 (.str "moduleyard.trees" 561), de P "__firstlineno__" 574 (.int 235 573), de P "__init__" 586 (.ref 293), de P "__static_attributes__" 593 (.ref 294), de P "__dict__" 595 (.ref 297), de P "__weakref__" 597 (.ref 298), de P "__doc__" 598 (.none)] 4 },
 { cls := .type "type", data := .cls { name := "Node", bases := [.type "object"], mro := [.ref 296, .type "object"], ns := 295, qualname := "Node" }, slots := #[none, none, some (.str "Node" 563), some (.str "Node" 571), some (.builtin "object.__new__"), some (.bool true)] },
 { cls := .type "getset_descriptor", data := .fields #[.str "__dict__" 594, .ref 296, .builtin "function.__dict__", .builtin "function.__dict__#set"] },
 { cls := .type "getset_descriptor", data := .fields #[.str "__weakref__" 596, .ref 296, .builtin "ExceptionGroup.__weakref__", .none] },
 { cls := .type "super", data := .fields #[.ref 296, .ref 296, .ref 296] },
 { cls := .type "builtin_function_or_method", data := .fields #[.builtin "object.__init_subclass__", .ref 296] },
 e0,
 { cls := .type "builtin_function_or_method", data := .fields #[.builtin "type.__prepare__", .type "type"] },
 { cls := .type "dict", data := .dict #[de P "__module__" 608 (.str "moduleyard.trees" 561), de P "__qualname__" 610 (.str "ProcTree" 609), de P "__firstlineno__" 612 (.int 244 611), de P "__init__" 620 (.ref 314), de P "__static_attributes__" 628 (.ref 315)] 5 },
 e0,
 { cls := .none, data := .fields #[.int 246 0, .int 4 0, .ref 313] },
 co "ProcTree" "ProcTree" 603 244 0 0 606 (.ref 304) (.bool false) (.ref 305) .none .none .none .none,
 { cls := .type "frame", slots := #[some (.ref 306), some (.ref 3), some (.ref 303), none, some (.str "moduleyard.trees" 561), none, some (.ref 0)] },
 e0,
 f0,
 tu 616 ["self", "obj"],
 e0,
 fp (me 42 0) "__init__" "ProcTree.__init__",
 co "__init__" "ProcTree.__init__" 613 246 2 3 618 (.ref 308) (.bool true) (.ref 309) .none (.ref 310) (.ref 311) (.ref 312),
 fo (me 42 0) "__init__" "ProcTree.__init__" "moduleyard.trees" 561 313 .none,
 tu 621 ["body", "level", "locals", "obj", "params", "procs", "result"],
 { cls := .type "dict", data := .dict #[de P "__module__" 608 (.str "moduleyard.trees" 561), de P "__firstlineno__" 612 (.int 244 611), de P "__init__" 620 (.ref 314), de P "__static_attributes__" 628 (.ref 315), de P "__dict__" 630 (.ref 318), de P "__weakref__" 632 (.ref 319), de P "__doc__" 633 (.none)] 4 },
 { cls := .type "type", data := .cls { name := "ProcTree", bases := [.type "object"], mro := [.ref 317, .type "object"], ns := 316, qualname := "ProcTree" }, slots := #[none, none, some (.str "ProcTree" 601), some (.str "ProcTree" 609), some (.builtin "object.__new__"), some (.bool true)] },
 { cls := .type "getset_descriptor", data := .fields #[.str "__dict__" 629, .ref 317, .builtin "function.__dict__", .builtin "function.__dict__#set"] },
 { cls := .type "getset_descriptor", data := .fields #[.str "__weakref__" 631, .ref 317, .builtin "ExceptionGroup.__weakref__", .none] },
 { cls := .type "super", data := .fields #[.ref 317, .ref 317, .ref 317] },
 { cls := .type "builtin_function_or_method", data := .fields #[.builtin "object.__init_subclass__", .ref 317] },
 e0,
 f0,
 tu 639 ["node", "found", "waiting", "one", "kid"],
 e0,
 fp (st 43) "nodes_of" "nodes_of",
 co "nodes_of" "nodes_of" 636 254 1 3 644 (.ref 322) (.bool true) (.ref 323) .none (.ref 324) (.ref 325) (.ref 326),
 fo (st 43) "nodes_of" "nodes_of" "moduleyard.trees" 561 327 .none,
 e0,
 f0,
 tu 656 ["older", "newer", "found", "slot"],
 e0,
 fp (st 47) "widen_env" "widen_env",
 co "widen_env" "widen_env" 653 269 2 3 660 (.ref 329) (.bool true) (.ref 330) .none (.ref 331) (.ref 332) (.ref 333),
 fo (st 47) "widen_env" "widen_env" "moduleyard.rangeflow" 647 334 .none,
 e0,
 f0,
 tu 666 ["st", "env", "node", "value", "slot"],
 e0,
 fp (st 48) "run_assign" "run_assign",
 co "run_assign" "run_assign" 663 274 3 3 671 (.ref 336) (.bool true) (.ref 337) .none (.ref 338) (.ref 339) (.ref 340),
 fo (st 48) "run_assign" "run_assign" "moduleyard.rangeflow" 647 341 .none,
 e0,
 f0,
 tu 677 ["st", "env", "node", "held", "change", "found", "traps", "slot"],
 e0,
 fp (st 49) "run_step" "run_step",
 co "run_step" "run_step" 674 281 3 3 685 (.ref 343) (.bool true) (.ref 344) .none (.ref 345) (.ref 346) (.ref 347),
 fo (st 49) "run_step" "run_step" "moduleyard.rangeflow" 647 348 .none,
 e0,
 f0,
 tu 691 ["st", "env", "node", "kid"],
 e0,
 fp (st 50) "run_std" "run_std",
 co "run_std" "run_std" 688 290 3 3 695 (.ref 350) (.bool true) (.ref 351) .none (.ref 352) (.ref 353) (.ref 354),
 fo (st 50) "run_std" "run_std" "moduleyard.rangeflow" 647 355 .none,
 e0,
 f0,
 tu 701 ["st", "env", "node", "last", "done", "place", "inner"],
 e0,
 fp (st 51) "run_arms" "run_arms",
 co "run_arms" "run_arms" 698 298 4 3 708 (.ref 357) (.bool true) (.ref 358) .none (.ref 359) (.ref 360) (.ref 361),
 fo (st 51) "run_arms" "run_arms" "moduleyard.rangeflow" 647 362 .none,
 e0,
 f0,
 tu 714 ["st", "env", "node", "last", "done"],
 e0,
 fp (st 52) "run_if" "run_if",
 co "run_if" "run_if" 711 308 3 3 719 (.ref 364) (.bool true) (.ref 365) .none (.ref 366) (.ref 367) (.ref 368),
 fo (st 52) "run_if" "run_if" "moduleyard.rangeflow" 647 369 .none,
 e0,
 f0,
 tu 725 ["st", "env", "node"],
 e0,
 fp (st 53) "turn_of" "turn_of",
 co "turn_of" "turn_of" 722 314 3 3 728 (.ref 371) (.bool true) (.ref 372) .none (.ref 373) (.ref 374) (.ref 375),
 fo (st 53) "turn_of" "turn_of" "moduleyard.rangeflow" 647 376 .none,
 e0,
 f0,
 tu 734 ["st", "env", "node", "limit", "slot", "step", "op", "inside", "past", "out", "back"],
 e0,
 fp (st 54) "for_turn" "for_turn",
 co "for_turn" "for_turn" 731 324 3 3 745 (.ref 378) (.bool true) (.ref 379) .none (.ref 380) (.ref 381) (.ref 382),
 fo (st 54) "for_turn" "for_turn" "moduleyard.rangeflow" 647 383 .none,
 e0,
 f0,
 tu 751 ["st", "env", "node", "kept", "back"],
 e0,
 fp (st 55) "quiet_turn" "quiet_turn",
 co "quiet_turn" "quiet_turn" 748 340 3 3 756 (.ref 385) (.bool true) (.ref 386) .none (.ref 387) (.ref 388) (.ref 389),
 fo (st 55) "quiet_turn" "quiet_turn" "moduleyard.rangeflow" 647 390 .none,
 e0,
 f0,
 tu 762 ["st", "node", "loop", "slots", "found", "one", "slot"],
 e0,
 fp (st 56) "written_slots" "written_slots",
 co "written_slots" "written_slots" 759 346 2 3 769 (.ref 392) (.bool true) (.ref 393) .none (.ref 394) (.ref 395) (.ref 396),
 fo (st 56) "written_slots" "written_slots" "moduleyard.rangeflow" 647 397 .none,
 e0,
 f0,
 tu 775 ["st", "env", "node", "found", "slot"],
 e0,
 fp (st 57) "loosened" "loosened",
 co "loosened" "loosened" 772 358 3 3 780 (.ref 399) (.bool true) (.ref 400) .none (.ref 401) (.ref 402) (.ref 403),
 fo (st 57) "loosened" "loosened" "moduleyard.rangeflow" 647 404 .none,
 e0,
 f0,
 tu 786 ["st", "env", "node", "out"],
 e0,
 fp (st 58) "run_loop" "run_loop",
 co "run_loop" "run_loop" 783 363 3 3 790 (.ref 406) (.bool true) (.ref 407) .none (.ref 408) (.ref 409) (.ref 410),
 fo (st 58) "run_loop" "run_loop" "moduleyard.rangeflow" 647 411 .none,
 e0,
 f0,
 tu 796 ["st", "env", "node", "head", "rounds", "grown"],
 e0,
 fp (st 59) "loop_head" "loop_head",
 co "loop_head" "loop_head" 793 370 3 3 802 (.ref 413) (.bool true) (.ref 414) .none (.ref 415) (.ref 416) (.ref 417),
 fo (st 59) "loop_head" "loop_head" "moduleyard.rangeflow" 647 418 .none,
 e0,
 f0,
 tu 808 ["st", "env", "node", "start", "slot"],
 e0,
 fp (st 60) "run_for" "run_for",
 co "run_for" "run_for" 805 381 3 3 813 (.ref 420) (.bool true) (.ref 421) .none (.ref 422) (.ref 423) (.ref 424),
 fo (st 60) "run_for" "run_for" "moduleyard.rangeflow" 647 425 .none,
 e0,
 f0,
 tu 819 ["labels", "found", "low", "high"],
 e0,
 fp (st 61) "label_hull" "label_hull",
 co "label_hull" "label_hull" 816 388 1 3 823 (.ref 427) (.bool true) (.ref 428) .none (.ref 429) (.ref 430) (.ref 431),
 fo (st 61) "label_hull" "label_hull" "moduleyard.rangeflow" 647 432 .none,
 e0,
 f0,
 tu 829 ["st", "env", "node", "value", "slot", "rows", "has_else", "done", "place", "inner", "hull", "part"],
 e0,
 fp (st 62) "run_case" "run_case",
 co "run_case" "run_case" 826 393 3 3 841 (.ref 434) (.bool true) (.ref 435) .none (.ref 436) (.ref 437) (.ref 438),
 fo (st 62) "run_case" "run_case" "moduleyard.rangeflow" 647 439 .none,
 e0,
 f0,
 tu 847 ["st", "env", "node", "done", "block"],
 e0,
 fp (st 63) "run_typecase" "run_typecase",
 co "run_typecase" "run_typecase" 844 411 3 3 852 (.ref 441) (.bool true) (.ref 442) .none (.ref 443) (.ref 444) (.ref 445),
 fo (st 63) "run_typecase" "run_typecase" "moduleyard.rangeflow" 647 446 .none,
 e0,
 f0,
 tu 858 ["st", "env", "node", "op", "kid"],
 e0,
 fp (st 64) "run" "run",
 co "run" "run" 855 417 3 3 863 (.ref 448) (.bool true) (.ref 449) .none (.ref 450) (.ref 451) (.ref 452),
 fo (st 64) "run" "run" "moduleyard.rangeflow" 647 453 .none,
 e0,
 f0,
 tu 869 ["node", "level", "found", "one", "params", "place", "kid"],
 e0,
 fp (st 65) "taken_slots" "taken_slots",
 co "taken_slots" "taken_slots" 866 441 2 3 876 (.ref 455) (.bool true) (.ref 456) .none (.ref 457) (.ref 458) (.ref 459),
 fo (st 65) "taken_slots" "taken_slots" "moduleyard.rangeflow" 647 460 .none,
 e0,
 f0,
 tu 882 ["proc", "level", "found", "node", "inner"],
 e0,
 fp (st 66) "named_slots" "named_slots",
 co "named_slots" "named_slots" 879 451 2 3 887 (.ref 462) (.bool true) (.ref 463) .none (.ref 464) (.ref 465) (.ref 466),
 fo (st 66) "named_slots" "named_slots" "moduleyard.rangeflow" 647 467 .none,
 e0,
 f0,
 tu 893 ["proc", "out", "inner", "slots", "obj"],
 e0,
 fp (st 67) "followed_slots" "followed_slots",
 co "followed_slots" "followed_slots" 890 459 1 3 898 (.ref 469) (.bool true) (.ref 470) .none (.ref 471) (.ref 472) (.ref 473),
 fo (st 67) "followed_slots" "followed_slots" "moduleyard.rangeflow" 647 474 .none,
 e0,
 f0,
 tu 904 ["proc", "inner", "slots", "st", "env"],
 e0,
 fp (st 68) "analyse" "analyse",
 co "analyse" "analyse" 901 468 1 3 909 (.ref 476) (.bool true) (.ref 477) .none (.ref 478) (.ref 479) (.ref 480),
 fo (st 68) "analyse" "analyse" "moduleyard.rangeflow" 647 481 .none,
 e0,
 { cls := .type "builtin_function_or_method", data := .fields #[.builtin "type.__prepare__", .type "type"] },
 { cls := .type "dict", data := .dict #[de P "__module__" 921 (.str "moduleyard.types" 912), de P "__qualname__" 923 (.str "Type" 922), de P "__firstlineno__" 925 (.int 478 924), de P "__init__" 935 (.ref 496), de P "__static_attributes__" 948 (.ref 497)] 5 },
 e0,
 { cls := .none, data := .fields #[.int 480 0, .int 4 0, .ref 495] },
 co "Type" "Type" 916 478 0 0 919 (.ref 486) (.bool false) (.ref 487) .none .none .none .none,
 { cls := .type "frame", slots := #[some (.ref 488), some (.ref 3), some (.ref 485), none, some (.str "moduleyard.types" 912), none, some (.ref 0)] },
 e0,
 f0,
 tu 929 ["self", "number", "form", "size"],
 e0,
 fp (me 70 0) "__init__" "Type.__init__",
 co "__init__" "Type.__init__" 926 480 4 3 933 (.ref 490) (.bool true) (.ref 491) .none (.ref 492) (.ref 493) (.ref 494),
 fo (me 70 0) "__init__" "Type.__init__" "moduleyard.types" 912 495 .none,
 tu 936 ["base", "exno", "fields", "form", "hidden", "label", "length", "level", "module", "number", "params", "size"],
 { cls := .type "dict", data := .dict #[de P "__module__" 921 (.str "moduleyard.types" 912), de P "__firstlineno__" 925 (.int 478 924), de P "__init__" 935 (.ref 496), de P "__static_attributes__" 948 (.ref 497), de P "__dict__" 950 (.ref 500), de P "__weakref__" 952 (.ref 501), de P "__doc__" 953 (.none)] 4 },
 { cls := .type "type", data := .cls { name := "Type", bases := [.type "object"], mro := [.ref 499, .type "object"], ns := 498, qualname := "Type" }, slots := #[none, none, some (.str "Type" 914), some (.str "Type" 922), some (.builtin "object.__new__"), some (.bool true)] },
 { cls := .type "getset_descriptor", data := .fields #[.str "__dict__" 949, .ref 499, .builtin "function.__dict__", .builtin "function.__dict__#set"] },
 { cls := .type "getset_descriptor", data := .fields #[.str "__weakref__" 951, .ref 499, .builtin "ExceptionGroup.__weakref__", .none] },
 { cls := .type "super", data := .fields #[.ref 499, .ref 499, .ref 499] },
 { cls := .type "builtin_function_or_method", data := .fields #[.builtin "object.__init_subclass__", .ref 499] },
 e0,
 { cls := .type "builtin_function_or_method", data := .fields #[.builtin "type.__prepare__", .type "type"] },
 { cls := .type "dict", data := .dict #[de P "__module__" 963 (.str "moduleyard.types" 912), de P "__qualname__" 965 (.str "Obj" 964), de P "__firstlineno__" 967 (.int 493 966), de P "__init__" 978 (.ref 517), de P "__static_attributes__" 993 (.ref 518)] 5 },
 e0,
 { cls := .none, data := .fields #[.int 495 0, .int 4 0, .ref 516] },
 co "Obj" "Obj" 958 493 0 0 961 (.ref 507) (.bool false) (.ref 508) .none .none .none .none,
 { cls := .type "frame", slots := #[some (.ref 509), some (.ref 3), some (.ref 506), none, some (.str "moduleyard.types" 912), none, some (.ref 0)] },
 e0,
 f0,
 tu 971 ["self", "name", "kind", "type_of", "place"],
 e0,
 fp (me 71 0) "__init__" "Obj.__init__",
 co "__init__" "Obj.__init__" 968 495 5 3 976 (.ref 511) (.bool true) (.ref 512) .none (.ref 513) (.ref 514) (.ref 515),
 fo (me 71 0) "__init__" "Obj.__init__" "moduleyard.types" 912 516 .none,
 tu 979 ["exported", "isparam", "kind", "level", "module", "name", "narrowed", "number", "offset", "place", "readonly", "slot", "type", "value"],
 { cls := .type "dict", data := .dict #[de P "__module__" 963 (.str "moduleyard.types" 912), de P "__firstlineno__" 967 (.int 493 966), de P "__init__" 978 (.ref 517), de P "__static_attributes__" 993 (.ref 518), de P "__dict__" 995 (.ref 521), de P "__weakref__" 997 (.ref 522), de P "__doc__" 998 (.none)] 4 },
 { cls := .type "type", data := .cls { name := "Obj", bases := [.type "object"], mro := [.ref 520, .type "object"], ns := 519, qualname := "Obj" }, slots := #[none, none, some (.str "Obj" 956), some (.str "Obj" 964), some (.builtin "object.__new__"), some (.bool true)] },
 { cls := .type "getset_descriptor", data := .fields #[.str "__dict__" 994, .ref 520, .builtin "function.__dict__", .builtin "function.__dict__#set"] },
 { cls := .type "getset_descriptor", data := .fields #[.str "__weakref__" 996, .ref 520, .builtin "ExceptionGroup.__weakref__", .none] },
 { cls := .type "super", data := .fields #[.ref 520, .ref 520, .ref 520] },
 { cls := .type "builtin_function_or_method", data := .fields #[.builtin "object.__init_subclass__", .ref 520] },
 e0,
 { cls := .type "builtin_function_or_method", data := .fields #[.builtin "type.__prepare__", .type "type"] },
 { cls := .type "dict", data := .dict #[de P "__module__" 1008 (.str "moduleyard.types" 912), de P "__qualname__" 1010 (.str "Types" 1009), de P "__firstlineno__" 1012 (.int 510 1011), de P "__init__" 1019 (.ref 538), de P "new" 1033 (.ref 546), de P "string" 1042 (.ref 553), de P "__static_attributes__" 1052 (.ref 554)] 7 },
 e0,
 { cls := .none, data := .fields #[.int 512 0, .int 4 0, .ref 537, .int 523 0, .int 4 0, .ref 545, .int 532 0, .int 4 0, .ref 552] },
 co "Types" "Types" 1003 510 0 0 1006 (.ref 528) (.bool false) (.ref 529) .none .none .none .none,
 { cls := .type "frame", slots := #[some (.ref 530), some (.ref 3), some (.ref 527), none, some (.str "moduleyard.types" 912), none, some (.ref 0)] },
 e0,
 f0,
 tu 1016 ["self"],
 e0,
 fp (me 72 0) "__init__" "Types.__init__",
 co "__init__" "Types.__init__" 1013 512 1 3 1017 (.ref 532) (.bool true) (.ref 533) .none (.ref 534) (.ref 535) (.ref 536),
 fo (me 72 0) "__init__" "Types.__init__" "moduleyard.types" 912 537 .none,
 tu 1020 ["", ""],
 e0,
 f0,
 tu 1025 ["self", "form", "size", "module", "label", "made"],
 e0,
 fp (me 72 1) "new" "Types.new",
 co "new" "Types.new" 1022 523 5 3 1031 (.ref 540) (.bool true) (.ref 541) .none (.ref 542) (.ref 543) (.ref 544),
 fo (me 72 1) "new" "Types.new" "moduleyard.types" 912 545 (.ref 539),
 e0,
 f0,
 tu 1037 ["self", "length", "made"],
 e0,
 fp (me 72 2) "string" "Types.string",
 co "string" "Types.string" 1034 532 2 3 1040 (.ref 547) (.bool true) (.ref 548) .none (.ref 549) (.ref 550) (.ref 551),
 fo (me 72 2) "string" "Types.string" "moduleyard.types" 912 552 .none,
 tu 1043 ["boolean", "byte", "char", "counter", "integer", "known", "mask", "nil", "none"],
 { cls := .type "dict", data := .dict #[de P "__module__" 1008 (.str "moduleyard.types" 912), de P "__firstlineno__" 1012 (.int 510 1011), de P "__init__" 1019 (.ref 538), de P "new" 1033 (.ref 546), de P "string" 1042 (.ref 553), de P "__static_attributes__" 1052 (.ref 554), de P "__dict__" 1054 (.ref 557), de P "__weakref__" 1056 (.ref 558), de P "__doc__" 1057 (.none)] 4 },
 { cls := .type "type", data := .cls { name := "Types", bases := [.type "object"], mro := [.ref 556, .type "object"], ns := 555, qualname := "Types" }, slots := #[none, none, some (.str "Types" 1001), some (.str "Types" 1009), some (.builtin "object.__new__"), some (.bool true)] },
 { cls := .type "getset_descriptor", data := .fields #[.str "__dict__" 1053, .ref 556, .builtin "function.__dict__", .builtin "function.__dict__#set"] },
 { cls := .type "getset_descriptor", data := .fields #[.str "__weakref__" 1055, .ref 556, .builtin "ExceptionGroup.__weakref__", .none] },
 { cls := .type "super", data := .fields #[.ref 556, .ref 556, .ref 556] },
 { cls := .type "builtin_function_or_method", data := .fields #[.builtin "object.__init_subclass__", .ref 556] },
 e0,
 f0,
 tu 1065 ["string_of", "limit"],
 e0,
 fp (st 74) "_law_bead" "_law_bead",
 co "_law_bead" "_law_bead" 1062 538 2 3 1067 (.ref 561) (.bool true) (.ref 562) .none (.ref 563) (.ref 564) (.ref 565),
 fo (st 74) "_law_bead" "_law_bead" "law_pq0770_02" 1060 566 .none,
 e0,
 f0,
 tu 1073 ["t", "name", "slot", "obj"],
 e0,
 fp (st 75) "_law_var" "_law_var",
 co "_law_var" "_law_var" 1070 543 3 3 1077 (.ref 568) (.bool true) (.ref 569) .none (.ref 570) (.ref 571) (.ref 572),
 fo (st 75) "_law_var" "_law_var" "law_pq0770_02" 1060 573 .none,
 e0,
 f0,
 tu 1083 ["t", "n"],
 e0,
 fp (st 76) "_law_const" "_law_const",
 co "_law_const" "_law_const" 1080 549 2 3 1085 (.ref 575) (.bool true) (.ref 576) .none (.ref 577) (.ref 578) (.ref 579),
 fo (st 76) "_law_const" "_law_const" "law_pq0770_02" 1060 580 .none,
 e0,
 f0,
 fp (st 77) "_law_loops_right" "_law_loops_right",
 co "_law_loops_right" "_law_loops_right" 1088 551 1 3 1091 (.ref 582) (.bool true) (.ref 583) .none .none .none (.ref 584),
 fo (st 77) "_law_loops_right" "_law_loops_right" "law_pq0770_02" 1060 585 .none,
 e0,
 f0,
 tu 1097 ["node", "values", "left", "right"],
 e0,
 fp (st 78) "_law_holds" "_law_holds",
 co "_law_holds" "_law_holds" 1094 594 2 3 1101 (.ref 587) (.bool true) (.ref 588) .none (.ref 589) (.ref 590) (.ref 591),
 fo (st 78) "_law_holds" "_law_holds" "law_pq0770_02" 1060 592 .none,
 e0,
 f0,
 fp (st 79) "_law_conditions_right" "_law_conditions_right",
 co "_law_conditions_right" "_law_conditions_right" 1104 602 1 3 1107 (.ref 594) (.bool true) (.ref 595) .none .none .none (.ref 596),
 fo (st 79) "_law_conditions_right" "_law_conditions_right" "law_pq0770_02" 1060 597 .none,
 e0,
 f0,
 tu 1113 ["script", "string_of"],
 e0,
 fp (st 80) "law" "law",
 co "law" "law" 1110 628 1 3 1115 (.ref 599) (.bool true) (.ref 600) .none (.ref 601) (.ref 602) (.ref 603),
 fo (st 80) "law" "law" "law_pq0770_02" 1060 604 .none]
noncomputable def K : Params → Frag := fun P => [
 (2, { cls := .none, data := .dict #[] }),
 (3, ns P 84 (.str "law_pq0770_02" 1060)),
 (13, o13),
 (20, co "full" "full" 194 4 0 3 197 (.ref 15) (.bool true) (.ref 16) .none (.ref 17) (.ref 18) (.ref 19)),
 (21, fo (st 3) "full" "full" "moduleyard.intervals" 187 20 .none),
 (27, co "single" "single" 200 6 1 3 204 (.ref 22) (.bool true) (.ref 23) .none (.ref 24) (.ref 25) (.ref 26)),
 (28, fo (st 4) "single" "single" "moduleyard.intervals" 187 27 .none),
 (34, co "clipped" "clipped" 207 8 2 3 213 (.ref 29) (.bool true) (.ref 30) .none (.ref 31) (.ref 32) (.ref 33)),
 (35, fo (st 5) "clipped" "clipped" "moduleyard.intervals" 187 34 .none),
 (41, co "add" "add" 216 15 2 3 221 (.ref 36) (.bool true) (.ref 37) .none (.ref 38) (.ref 39) (.ref 40)),
 (42, fo (st 6) "add" "add" "moduleyard.intervals" 187 41 .none),
 (48, co "sub" "sub" 224 17 2 3 229 (.ref 43) (.bool true) (.ref 44) .none (.ref 45) (.ref 46) (.ref 47)),
 (49, fo (st 7) "sub" "sub" "moduleyard.intervals" 187 48 .none),
 (55, co "mul" "mul" 232 19 2 3 238 (.ref 50) (.bool true) (.ref 51) .none (.ref 52) (.ref 53) (.ref 54)),
 (56, fo (st 8) "mul" "mul" "moduleyard.intervals" 187 55 .none),
 (62, co "neg" "neg" 241 22 1 3 245 (.ref 57) (.bool true) (.ref 58) .none (.ref 59) (.ref 60) (.ref 61)),
 (63, fo (st 9) "neg" "neg" "moduleyard.intervals" 187 62 .none),
 (69, co "absolute" "absolute" 248 24 1 3 252 (.ref 64) (.bool true) (.ref 65) .none (.ref 66) (.ref 67) (.ref 68)),
 (70, fo (st 10) "absolute" "absolute" "moduleyard.intervals" 187 69 .none),
 (76, co "div" "div" 255 30 2 3 263 (.ref 71) (.bool true) (.ref 72) .none (.ref 73) (.ref 74) (.ref 75)),
 (77, fo (st 11) "div" "div" "moduleyard.intervals" 187 76 .none),
 (83, co "mod" "mod" 266 37 2 3 273 (.ref 78) (.bool true) (.ref 79) .none (.ref 80) (.ref 81) (.ref 82)),
 (84, fo (st 12) "mod" "mod" "moduleyard.intervals" 187 83 .none),
 (90, co "within" "within" 276 47 2 3 281 (.ref 85) (.bool true) (.ref 86) .none (.ref 87) (.ref 88) (.ref 89)),
 (91, fo (st 13) "within" "within" "moduleyard.intervals" 187 90 .none),
 (97, co "join" "join" 284 49 2 3 289 (.ref 92) (.bool true) (.ref 93) .none (.ref 94) (.ref 95) (.ref 96)),
 (98, fo (st 14) "join" "join" "moduleyard.intervals" 187 97 .none),
 (104, co "widen" "widen" 292 51 2 3 299 (.ref 99) (.bool true) (.ref 100) .none (.ref 101) (.ref 102) (.ref 103)),
 (105, fo (st 15) "widen" "widen" "moduleyard.intervals" 187 104 .none),
 (111, co "meet" "meet" 302 55 2 3 309 (.ref 106) (.bool true) (.ref 107) .none (.ref 108) (.ref 109) (.ref 110)),
 (112, fo (st 16) "meet" "meet" "moduleyard.intervals" 187 111 .none),
 (118, co "below" "below" 312 61 3 3 320 (.ref 113) (.bool true) (.ref 114) .none (.ref 115) (.ref 116) (.ref 117)),
 (119, fo (st 17) "below" "below" "moduleyard.intervals" 187 118 .none),
 (125, co "without" "without" 323 69 2 3 328 (.ref 120) (.bool true) (.ref 121) .none (.ref 122) (.ref 123) (.ref 124)),
 (126, fo (st 18) "without" "without" "moduleyard.intervals" 187 125 .none),
 (132, co "apart" "apart" 331 77 2 3 338 (.ref 127) (.bool true) (.ref 128) .none (.ref 129) (.ref 130) (.ref 131)),
 (133, fo (st 19) "apart" "apart" "moduleyard.intervals" 187 132 .none),
 (139, co "narrow" "narrow" 341 83 3 3 349 (.ref 134) (.bool true) (.ref 135) .none (.ref 136) (.ref 137) (.ref 138)),
 (140, fo (st 20) "narrow" "narrow" "moduleyard.intervals" 187 139 .none),
 (146, co "opposite" "opposite" 352 93 1 3 356 (.ref 141) (.bool true) (.ref 142) .none (.ref 143) (.ref 144) (.ref 145)),
 (147, fo (st 21) "opposite" "opposite" "moduleyard.intervals" 187 146 .none),
 (150, { cls := .type "dict", data := .dict #[de P "__module__" 368 (.str "moduleyard.ranges" 359), de P "__qualname__" 370 (.str "Ranges" 369), de P "__firstlineno__" 372 (.int 96 371), de P "__init__" 381 (.ref 161), de P "__static_attributes__" 387 (.ref 162)] 5 }),
 (153, co "Ranges" "Ranges" 363 96 0 0 366 (.ref 151) (.bool false) (.ref 152) .none .none .none .none),
 (160, co "__init__" "Ranges.__init__" 373 98 3 3 379 (.ref 155) (.bool true) (.ref 156) .none (.ref 157) (.ref 158) (.ref 159)),
 (161, fo (me 23 0) "__init__" "Ranges.__init__" "moduleyard.ranges" 359 160 .none),
 (163, { cls := .type "dict", data := .dict #[de P "__module__" 368 (.str "moduleyard.ranges" 359), de P "__firstlineno__" 372 (.int 96 371), de P "__init__" 381 (.ref 161), de P "__static_attributes__" 387 (.ref 162), de P "__dict__" 389 (.ref 165), de P "__weakref__" 391 (.ref 166), de P "__doc__" 392 (.none)] 4 }),
 (164, { cls := .type "type", data := .cls { name := "Ranges", bases := [.type "object"], mro := [.ref 164, .type "object"], ns := 163, qualname := "Ranges" }, slots := #[none, none, some (.str "Ranges" 361), some (.str "Ranges" 369), some (.builtin "object.__new__"), some (.bool true)] }),
 (165, { cls := .type "getset_descriptor", data := .fields #[.str "__dict__" 388, .ref 164, .builtin "function.__dict__", .builtin "function.__dict__#set"] }),
 (166, { cls := .type "getset_descriptor", data := .fields #[.str "__weakref__" 390, .ref 164, .builtin "ExceptionGroup.__weakref__", .none] }),
 (174, co "join_envs" "join_envs" 395 104 2 3 402 (.ref 169) (.bool true) (.ref 170) .none (.ref 171) (.ref 172) (.ref 173)),
 (175, fo (st 24) "join_envs" "join_envs" "moduleyard.ranges" 359 174 .none),
 (181, co "env_within" "env_within" 405 113 2 3 411 (.ref 176) (.bool true) (.ref 177) .none (.ref 178) (.ref 179) (.ref 180)),
 (182, fo (st 25) "env_within" "env_within" "moduleyard.ranges" 359 181 .none),
 (188, co "with_slot" "with_slot" 414 120 3 3 421 (.ref 183) (.bool true) (.ref 184) .none (.ref 185) (.ref 186) (.ref 187)),
 (189, fo (st 26) "with_slot" "with_slot" "moduleyard.ranges" 359 188 .none),
 (195, co "followed_slot" "followed_slot" 424 124 2 3 429 (.ref 190) (.bool true) (.ref 191) .none (.ref 192) (.ref 193) (.ref 194)),
 (196, fo (st 27) "followed_slot" "followed_slot" "moduleyard.ranges" 359 195 .none),
 (202, co "type_range" "type_range" 432 128 1 3 436 (.ref 197) (.bool true) (.ref 198) .none (.ref 199) (.ref 200) (.ref 201)),
 (203, fo (st 28) "type_range" "type_range" "moduleyard.ranges" 359 202 .none),
 (209, co "known" "known" 439 132 1 3 443 (.ref 204) (.bool true) (.ref 205) .none (.ref 206) (.ref 207) (.ref 208)),
 (210, fo (st 29) "known" "known" "moduleyard.ranges" 359 209 .none),
 (216, co "mark" "mark" 446 134 3 3 452 (.ref 211) (.bool true) (.ref 212) .none (.ref 213) (.ref 214) (.ref 215)),
 (217, fo (st 30) "mark" "mark" "moduleyard.ranges" 359 216 .none),
 (223, co "look_arithmetic" "look_arithmetic" 455 137 3 3 466 (.ref 218) (.bool true) (.ref 219) .none (.ref 220) (.ref 221) (.ref 222)),
 (224, fo (st 31) "look_arithmetic" "look_arithmetic" "moduleyard.ranges" 359 223 .none),
 (230, co "look_index" "look_index" 469 147 3 3 478 (.ref 225) (.bool true) (.ref 226) .none (.ref 227) (.ref 228) (.ref 229)),
 (231, fo (st 32) "look_index" "look_index" "moduleyard.ranges" 359 230 .none),
 (235, co "look_std" "look_std" 481 154 3 3 484 (.ref 232) (.bool true) (.ref 233) .none .none .none (.ref 234)),
 (236, fo (st 33) "look_std" "look_std" "moduleyard.ranges" 359 235 .none),
 (242, co "look_lazy" "look_lazy" 487 165 3 3 494 (.ref 237) (.bool true) (.ref 238) .none (.ref 239) (.ref 240) (.ref 241)),
 (243, fo (st 34) "look_lazy" "look_lazy" "moduleyard.ranges" 359 242 .none),
 (249, co "look" "look" 497 171 3 3 506 (.ref 244) (.bool true) (.ref 245) .none (.ref 246) (.ref 247) (.ref 248)),
 (250, fo (st 35) "look" "look" "moduleyard.ranges" 359 249 .none),
 (256, co "quiet" "quiet" 509 191 3 3 517 (.ref 251) (.bool true) (.ref 252) .none (.ref 253) (.ref 254) (.ref 255)),
 (257, fo (st 36) "quiet" "quiet" "moduleyard.ranges" 359 256 .none),
 (263, co "assume_relation" "assume_relation" 520 197 4 3 535 (.ref 258) (.bool true) (.ref 259) .none (.ref 260) (.ref 261) (.ref 262)),
 (264, fo (st 37) "assume_relation" "assume_relation" "moduleyard.ranges" 359 263 .none),
 (270, co "both_ways" "both_ways" 538 214 3 3 548 (.ref 265) (.bool true) (.ref 266) .none (.ref 267) (.ref 268) (.ref 269)),
 (271, fo (st 38) "both_ways" "both_ways" "moduleyard.ranges" 359 270 .none),
 (277, co "assume" "assume" 551 232 4 3 558 (.ref 272) (.bool true) (.ref 273) .none (.ref 274) (.ref 275) (.ref 276)),
 (278, fo (st 39) "assume" "assume" "moduleyard.ranges" 359 277 .none),
 (281, { cls := .type "dict", data := .dict #[de P "__module__" 570 (.str "moduleyard.trees" 561), de P "__qualname__" 572 (.str "Node" 571), de P "__firstlineno__" 574 (.int 235 573), de P "__init__" 586 (.ref 293), de P "__static_attributes__" 593 (.ref 294)] 5 }),
 (284, co "Node" "Node" 565 235 0 0 568 (.ref 282) (.bool false) (.ref 283) .none .none .none .none),
 (286, tv #[.none]),
 (292, co "__init__" "Node.__init__" 575 237 6 3 584 (.ref 287) (.bool true) (.ref 288) .none (.ref 289) (.ref 290) (.ref 291)),
 (293, fo (me 41 0) "__init__" "Node.__init__" "moduleyard.trees" 561 292 (.ref 286)),
 (295, { cls := .type "dict", data := .dict #[de P "__module__" 570 (.str "moduleyard.trees" 561), de P "__firstlineno__" 574 (.int 235 573), de P "__init__" 586 (.ref 293), de P "__static_attributes__" 593 (.ref 294), de P "__dict__" 595 (.ref 297), de P "__weakref__" 597 (.ref 298), de P "__doc__" 598 (.none)] 4 }),
 (296, { cls := .type "type", data := .cls { name := "Node", bases := [.type "object"], mro := [.ref 296, .type "object"], ns := 295, qualname := "Node" }, slots := #[none, none, some (.str "Node" 563), some (.str "Node" 571), some (.builtin "object.__new__"), some (.bool true)] }),
 (297, { cls := .type "getset_descriptor", data := .fields #[.str "__dict__" 594, .ref 296, .builtin "function.__dict__", .builtin "function.__dict__#set"] }),
 (298, { cls := .type "getset_descriptor", data := .fields #[.str "__weakref__" 596, .ref 296, .builtin "ExceptionGroup.__weakref__", .none] }),
 (303, { cls := .type "dict", data := .dict #[de P "__module__" 608 (.str "moduleyard.trees" 561), de P "__qualname__" 610 (.str "ProcTree" 609), de P "__firstlineno__" 612 (.int 244 611), de P "__init__" 620 (.ref 314), de P "__static_attributes__" 628 (.ref 315)] 5 }),
 (306, co "ProcTree" "ProcTree" 603 244 0 0 606 (.ref 304) (.bool false) (.ref 305) .none .none .none .none),
 (313, co "__init__" "ProcTree.__init__" 613 246 2 3 618 (.ref 308) (.bool true) (.ref 309) .none (.ref 310) (.ref 311) (.ref 312)),
 (314, fo (me 42 0) "__init__" "ProcTree.__init__" "moduleyard.trees" 561 313 .none),
 (316, { cls := .type "dict", data := .dict #[de P "__module__" 608 (.str "moduleyard.trees" 561), de P "__firstlineno__" 612 (.int 244 611), de P "__init__" 620 (.ref 314), de P "__static_attributes__" 628 (.ref 315), de P "__dict__" 630 (.ref 318), de P "__weakref__" 632 (.ref 319), de P "__doc__" 633 (.none)] 4 }),
 (317, { cls := .type "type", data := .cls { name := "ProcTree", bases := [.type "object"], mro := [.ref 317, .type "object"], ns := 316, qualname := "ProcTree" }, slots := #[none, none, some (.str "ProcTree" 601), some (.str "ProcTree" 609), some (.builtin "object.__new__"), some (.bool true)] }),
 (318, { cls := .type "getset_descriptor", data := .fields #[.str "__dict__" 629, .ref 317, .builtin "function.__dict__", .builtin "function.__dict__#set"] }),
 (319, { cls := .type "getset_descriptor", data := .fields #[.str "__weakref__" 631, .ref 317, .builtin "ExceptionGroup.__weakref__", .none] }),
 (327, co "nodes_of" "nodes_of" 636 254 1 3 644 (.ref 322) (.bool true) (.ref 323) .none (.ref 324) (.ref 325) (.ref 326)),
 (328, fo (st 43) "nodes_of" "nodes_of" "moduleyard.trees" 561 327 .none),
 (334, co "widen_env" "widen_env" 653 269 2 3 660 (.ref 329) (.bool true) (.ref 330) .none (.ref 331) (.ref 332) (.ref 333)),
 (335, fo (st 47) "widen_env" "widen_env" "moduleyard.rangeflow" 647 334 .none),
 (341, co "run_assign" "run_assign" 663 274 3 3 671 (.ref 336) (.bool true) (.ref 337) .none (.ref 338) (.ref 339) (.ref 340)),
 (342, fo (st 48) "run_assign" "run_assign" "moduleyard.rangeflow" 647 341 .none),
 (348, co "run_step" "run_step" 674 281 3 3 685 (.ref 343) (.bool true) (.ref 344) .none (.ref 345) (.ref 346) (.ref 347)),
 (349, fo (st 49) "run_step" "run_step" "moduleyard.rangeflow" 647 348 .none),
 (355, co "run_std" "run_std" 688 290 3 3 695 (.ref 350) (.bool true) (.ref 351) .none (.ref 352) (.ref 353) (.ref 354)),
 (356, fo (st 50) "run_std" "run_std" "moduleyard.rangeflow" 647 355 .none),
 (362, co "run_arms" "run_arms" 698 298 4 3 708 (.ref 357) (.bool true) (.ref 358) .none (.ref 359) (.ref 360) (.ref 361)),
 (363, fo (st 51) "run_arms" "run_arms" "moduleyard.rangeflow" 647 362 .none),
 (369, co "run_if" "run_if" 711 308 3 3 719 (.ref 364) (.bool true) (.ref 365) .none (.ref 366) (.ref 367) (.ref 368)),
 (370, fo (st 52) "run_if" "run_if" "moduleyard.rangeflow" 647 369 .none),
 (376, co "turn_of" "turn_of" 722 314 3 3 728 (.ref 371) (.bool true) (.ref 372) .none (.ref 373) (.ref 374) (.ref 375)),
 (377, fo (st 53) "turn_of" "turn_of" "moduleyard.rangeflow" 647 376 .none),
 (383, co "for_turn" "for_turn" 731 324 3 3 745 (.ref 378) (.bool true) (.ref 379) .none (.ref 380) (.ref 381) (.ref 382)),
 (384, fo (st 54) "for_turn" "for_turn" "moduleyard.rangeflow" 647 383 .none),
 (390, co "quiet_turn" "quiet_turn" 748 340 3 3 756 (.ref 385) (.bool true) (.ref 386) .none (.ref 387) (.ref 388) (.ref 389)),
 (391, fo (st 55) "quiet_turn" "quiet_turn" "moduleyard.rangeflow" 647 390 .none),
 (397, co "written_slots" "written_slots" 759 346 2 3 769 (.ref 392) (.bool true) (.ref 393) .none (.ref 394) (.ref 395) (.ref 396)),
 (398, fo (st 56) "written_slots" "written_slots" "moduleyard.rangeflow" 647 397 .none),
 (404, co "loosened" "loosened" 772 358 3 3 780 (.ref 399) (.bool true) (.ref 400) .none (.ref 401) (.ref 402) (.ref 403)),
 (405, fo (st 57) "loosened" "loosened" "moduleyard.rangeflow" 647 404 .none),
 (411, co "run_loop" "run_loop" 783 363 3 3 790 (.ref 406) (.bool true) (.ref 407) .none (.ref 408) (.ref 409) (.ref 410)),
 (412, fo (st 58) "run_loop" "run_loop" "moduleyard.rangeflow" 647 411 .none),
 (418, co "loop_head" "loop_head" 793 370 3 3 802 (.ref 413) (.bool true) (.ref 414) .none (.ref 415) (.ref 416) (.ref 417)),
 (419, fo (st 59) "loop_head" "loop_head" "moduleyard.rangeflow" 647 418 .none),
 (425, co "run_for" "run_for" 805 381 3 3 813 (.ref 420) (.bool true) (.ref 421) .none (.ref 422) (.ref 423) (.ref 424)),
 (426, fo (st 60) "run_for" "run_for" "moduleyard.rangeflow" 647 425 .none),
 (432, co "label_hull" "label_hull" 816 388 1 3 823 (.ref 427) (.bool true) (.ref 428) .none (.ref 429) (.ref 430) (.ref 431)),
 (433, fo (st 61) "label_hull" "label_hull" "moduleyard.rangeflow" 647 432 .none),
 (439, co "run_case" "run_case" 826 393 3 3 841 (.ref 434) (.bool true) (.ref 435) .none (.ref 436) (.ref 437) (.ref 438)),
 (440, fo (st 62) "run_case" "run_case" "moduleyard.rangeflow" 647 439 .none),
 (446, co "run_typecase" "run_typecase" 844 411 3 3 852 (.ref 441) (.bool true) (.ref 442) .none (.ref 443) (.ref 444) (.ref 445)),
 (447, fo (st 63) "run_typecase" "run_typecase" "moduleyard.rangeflow" 647 446 .none),
 (453, co "run" "run" 855 417 3 3 863 (.ref 448) (.bool true) (.ref 449) .none (.ref 450) (.ref 451) (.ref 452)),
 (454, fo (st 64) "run" "run" "moduleyard.rangeflow" 647 453 .none),
 (460, co "taken_slots" "taken_slots" 866 441 2 3 876 (.ref 455) (.bool true) (.ref 456) .none (.ref 457) (.ref 458) (.ref 459)),
 (461, fo (st 65) "taken_slots" "taken_slots" "moduleyard.rangeflow" 647 460 .none),
 (467, co "named_slots" "named_slots" 879 451 2 3 887 (.ref 462) (.bool true) (.ref 463) .none (.ref 464) (.ref 465) (.ref 466)),
 (468, fo (st 66) "named_slots" "named_slots" "moduleyard.rangeflow" 647 467 .none),
 (474, co "followed_slots" "followed_slots" 890 459 1 3 898 (.ref 469) (.bool true) (.ref 470) .none (.ref 471) (.ref 472) (.ref 473)),
 (475, fo (st 67) "followed_slots" "followed_slots" "moduleyard.rangeflow" 647 474 .none),
 (481, co "analyse" "analyse" 901 468 1 3 909 (.ref 476) (.bool true) (.ref 477) .none (.ref 478) (.ref 479) (.ref 480)),
 (482, fo (st 68) "analyse" "analyse" "moduleyard.rangeflow" 647 481 .none),
 (485, { cls := .type "dict", data := .dict #[de P "__module__" 921 (.str "moduleyard.types" 912), de P "__qualname__" 923 (.str "Type" 922), de P "__firstlineno__" 925 (.int 478 924), de P "__init__" 935 (.ref 496), de P "__static_attributes__" 948 (.ref 497)] 5 }),
 (488, co "Type" "Type" 916 478 0 0 919 (.ref 486) (.bool false) (.ref 487) .none .none .none .none),
 (495, co "__init__" "Type.__init__" 926 480 4 3 933 (.ref 490) (.bool true) (.ref 491) .none (.ref 492) (.ref 493) (.ref 494)),
 (496, fo (me 70 0) "__init__" "Type.__init__" "moduleyard.types" 912 495 .none),
 (498, { cls := .type "dict", data := .dict #[de P "__module__" 921 (.str "moduleyard.types" 912), de P "__firstlineno__" 925 (.int 478 924), de P "__init__" 935 (.ref 496), de P "__static_attributes__" 948 (.ref 497), de P "__dict__" 950 (.ref 500), de P "__weakref__" 952 (.ref 501), de P "__doc__" 953 (.none)] 4 }),
 (499, { cls := .type "type", data := .cls { name := "Type", bases := [.type "object"], mro := [.ref 499, .type "object"], ns := 498, qualname := "Type" }, slots := #[none, none, some (.str "Type" 914), some (.str "Type" 922), some (.builtin "object.__new__"), some (.bool true)] }),
 (500, { cls := .type "getset_descriptor", data := .fields #[.str "__dict__" 949, .ref 499, .builtin "function.__dict__", .builtin "function.__dict__#set"] }),
 (501, { cls := .type "getset_descriptor", data := .fields #[.str "__weakref__" 951, .ref 499, .builtin "ExceptionGroup.__weakref__", .none] }),
 (506, { cls := .type "dict", data := .dict #[de P "__module__" 963 (.str "moduleyard.types" 912), de P "__qualname__" 965 (.str "Obj" 964), de P "__firstlineno__" 967 (.int 493 966), de P "__init__" 978 (.ref 517), de P "__static_attributes__" 993 (.ref 518)] 5 }),
 (509, co "Obj" "Obj" 958 493 0 0 961 (.ref 507) (.bool false) (.ref 508) .none .none .none .none),
 (516, co "__init__" "Obj.__init__" 968 495 5 3 976 (.ref 511) (.bool true) (.ref 512) .none (.ref 513) (.ref 514) (.ref 515)),
 (517, fo (me 71 0) "__init__" "Obj.__init__" "moduleyard.types" 912 516 .none),
 (519, { cls := .type "dict", data := .dict #[de P "__module__" 963 (.str "moduleyard.types" 912), de P "__firstlineno__" 967 (.int 493 966), de P "__init__" 978 (.ref 517), de P "__static_attributes__" 993 (.ref 518), de P "__dict__" 995 (.ref 521), de P "__weakref__" 997 (.ref 522), de P "__doc__" 998 (.none)] 4 }),
 (520, { cls := .type "type", data := .cls { name := "Obj", bases := [.type "object"], mro := [.ref 520, .type "object"], ns := 519, qualname := "Obj" }, slots := #[none, none, some (.str "Obj" 956), some (.str "Obj" 964), some (.builtin "object.__new__"), some (.bool true)] }),
 (521, { cls := .type "getset_descriptor", data := .fields #[.str "__dict__" 994, .ref 520, .builtin "function.__dict__", .builtin "function.__dict__#set"] }),
 (522, { cls := .type "getset_descriptor", data := .fields #[.str "__weakref__" 996, .ref 520, .builtin "ExceptionGroup.__weakref__", .none] }),
 (527, { cls := .type "dict", data := .dict #[de P "__module__" 1008 (.str "moduleyard.types" 912), de P "__qualname__" 1010 (.str "Types" 1009), de P "__firstlineno__" 1012 (.int 510 1011), de P "__init__" 1019 (.ref 538), de P "new" 1033 (.ref 546), de P "string" 1042 (.ref 553), de P "__static_attributes__" 1052 (.ref 554)] 7 }),
 (530, co "Types" "Types" 1003 510 0 0 1006 (.ref 528) (.bool false) (.ref 529) .none .none .none .none),
 (537, co "__init__" "Types.__init__" 1013 512 1 3 1017 (.ref 532) (.bool true) (.ref 533) .none (.ref 534) (.ref 535) (.ref 536)),
 (538, fo (me 72 0) "__init__" "Types.__init__" "moduleyard.types" 912 537 .none),
 (539, tu 1020 ["", ""]),
 (545, co "new" "Types.new" 1022 523 5 3 1031 (.ref 540) (.bool true) (.ref 541) .none (.ref 542) (.ref 543) (.ref 544)),
 (546, fo (me 72 1) "new" "Types.new" "moduleyard.types" 912 545 (.ref 539)),
 (552, co "string" "Types.string" 1034 532 2 3 1040 (.ref 547) (.bool true) (.ref 548) .none (.ref 549) (.ref 550) (.ref 551)),
 (553, fo (me 72 2) "string" "Types.string" "moduleyard.types" 912 552 .none),
 (555, { cls := .type "dict", data := .dict #[de P "__module__" 1008 (.str "moduleyard.types" 912), de P "__firstlineno__" 1012 (.int 510 1011), de P "__init__" 1019 (.ref 538), de P "new" 1033 (.ref 546), de P "string" 1042 (.ref 553), de P "__static_attributes__" 1052 (.ref 554), de P "__dict__" 1054 (.ref 557), de P "__weakref__" 1056 (.ref 558), de P "__doc__" 1057 (.none)] 4 }),
 (556, { cls := .type "type", data := .cls { name := "Types", bases := [.type "object"], mro := [.ref 556, .type "object"], ns := 555, qualname := "Types" }, slots := #[none, none, some (.str "Types" 1001), some (.str "Types" 1009), some (.builtin "object.__new__"), some (.bool true)] }),
 (557, { cls := .type "getset_descriptor", data := .fields #[.str "__dict__" 1053, .ref 556, .builtin "function.__dict__", .builtin "function.__dict__#set"] }),
 (558, { cls := .type "getset_descriptor", data := .fields #[.str "__weakref__" 1055, .ref 556, .builtin "ExceptionGroup.__weakref__", .none] }),
 (566, co "_law_bead" "_law_bead" 1062 538 2 3 1067 (.ref 561) (.bool true) (.ref 562) .none (.ref 563) (.ref 564) (.ref 565)),
 (567, fo (st 74) "_law_bead" "_law_bead" "law_pq0770_02" 1060 566 .none),
 (573, co "_law_var" "_law_var" 1070 543 3 3 1077 (.ref 568) (.bool true) (.ref 569) .none (.ref 570) (.ref 571) (.ref 572)),
 (574, fo (st 75) "_law_var" "_law_var" "law_pq0770_02" 1060 573 .none),
 (580, co "_law_const" "_law_const" 1080 549 2 3 1085 (.ref 575) (.bool true) (.ref 576) .none (.ref 577) (.ref 578) (.ref 579)),
 (581, fo (st 76) "_law_const" "_law_const" "law_pq0770_02" 1060 580 .none),
 (585, co "_law_loops_right" "_law_loops_right" 1088 551 1 3 1091 (.ref 582) (.bool true) (.ref 583) .none .none .none (.ref 584)),
 (586, fo (st 77) "_law_loops_right" "_law_loops_right" "law_pq0770_02" 1060 585 .none),
 (592, co "_law_holds" "_law_holds" 1094 594 2 3 1101 (.ref 587) (.bool true) (.ref 588) .none (.ref 589) (.ref 590) (.ref 591)),
 (593, fo (st 78) "_law_holds" "_law_holds" "law_pq0770_02" 1060 592 .none),
 (597, co "_law_conditions_right" "_law_conditions_right" 1104 602 1 3 1107 (.ref 594) (.bool true) (.ref 595) .none .none .none (.ref 596)),
 (598, fo (st 79) "_law_conditions_right" "_law_conditions_right" "law_pq0770_02" 1060 597 .none),
 (604, co "law" "law" 1110 628 1 3 1115 (.ref 599) (.bool true) (.ref 600) .none (.ref 601) (.ref 602) (.ref 603)),
 (605, fo (st 80) "law" "law" "law_pq0770_02" 1060 604 .none)]
noncomputable def kA : List Addr := [2, 3, 13, 20, 21, 27, 28, 34, 35, 41, 42, 48, 49, 55, 56, 62, 63, 69, 70, 76, 77, 83, 84, 90, 91, 97, 98, 104, 105, 111, 112, 118, 119, 125, 126, 132, 133, 139, 140, 146, 147, 150, 153, 160, 161, 163, 164, 165, 166, 174, 175, 181, 182, 188, 189, 195, 196, 202, 203, 209, 210, 216, 217, 223, 224, 230, 231, 235, 236, 242, 243, 249, 250, 256, 257, 263, 264, 270, 271, 277, 278, 281, 284, 286, 292, 293, 295, 296, 297, 298, 303, 306, 313, 314, 316, 317, 318, 319, 327, 328, 334, 335, 341, 342, 348, 349, 355, 356, 362, 363, 369, 370, 376, 377, 383, 384, 390, 391, 397, 398, 404, 405, 411, 412, 418, 419, 425, 426, 432, 433, 439, 440, 446, 447, 453, 454, 460, 461, 467, 468, 474, 475, 481, 482, 485, 488, 495, 496, 498, 499, 500, 501, 506, 509, 516, 517, 519, 520, 521, 522, 527, 530, 537, 538, 539, 545, 546, 552, 553, 555, 556, 557, 558, 566, 567, 573, 574, 580, 581, 585, 586, 592, 593, 597, 598, 604, 605]
noncomputable def alt : List Obj → List Obj
 | [] => []
 | [a] => [a]
 | a :: _ :: r => a :: alt r
noncomputable def mkT : Nat → List Obj → BT
 | 0, _ => .nil
 | _ + 1, [] => .nil
 | n + 1, a :: r => .node a (mkT n (alt r)) (mkT n (alt r.tail))
noncomputable def hS (P : Params) (n m t : Nat) (v : Value) : List Obj := (((hL P).take n).set 3 (ns P m v)).set 12 (tab12 t)
noncomputable abbrev hp : Program := PySem.Challenge.rw_pq0770_02.row.prog
noncomputable def hq : Program := view hp ((List.range 81).filter fun i => !([0, 22, 40, 44, 69, 73].contains i))
noncomputable def hEnv : Env := { scope := hp.main.scope, locals := mainNs, globals := mainNs, cells := [], code := .ref 13, frame := some 14 }
noncomputable def h0L (P : Params) : List Obj := [boot_o_0 P, boot_o_1 P, boot_o_2 P, boot_o_3 P, boot_o_4 P, boot_o_5 P, boot_o_6 P, boot_o_7 P, boot_o_8 P, boot_o_9 P, boot_o_10 P, e0, f0, o13, o14]
noncomputable abbrev hBd : List Stmt := behindTheImports hp
noncomputable abbrev hC : Code := .body hBd hEnv
noncomputable abbrev hP0 : Pos := ⟨0, 0, 0, 0⟩
noncomputable abbrev hPa : Pos := ⟨234, 0, 234, 8⟩
noncomputable abbrev hPb : Pos := ⟨477, 0, 477, 8⟩
noncomputable abbrev hPz : Pos := ⟨628, 0, 630, 75⟩
noncomputable abbrev S0 (w : World) (os : OsState) : Shared := ⟨boot_heap w.params, #[], boot_drawn, boot_toks, os⟩
noncomputable abbrev Sa (w : World) (os : OsState) : Shared := ⟨⟨⟨h0L w.params⟩, {}⟩, ⟨[]⟩, {}, 187, os⟩
noncomputable abbrev Sb (w : World) (os : OsState) : SharedT := ⟨mkT 10 (h0L w.params), 15, {}, ⟨[]⟩, {}, 187, os⟩
noncomputable abbrev S1 (w : World) (os : OsState) : SharedT := ⟨mkT 10 (hS w.params 279 47 36 (.str "moduleyard.trees" 561)), 279, {}, ⟨[]⟩, {}, 563, os⟩
noncomputable abbrev S2 (w : World) (os : OsState) : SharedT := ⟨mkT 10 (hS w.params 483 74 61 (.str "moduleyard.types" 912)), 483, {}, ⟨[]⟩, {}, 914, os⟩
noncomputable abbrev S3 (w : World) (os : OsState) : SharedT := ⟨mkT 10 (hL w.params), 606, {}, ⟨[]⟩, {}, 1118, os⟩
noncomputable def hH1 (P : Params) : Heap := ⟨⟨hL P⟩, {}⟩
noncomputable abbrev Sz (w : World) (os : OsState) : Shared := ⟨hH1 w.params, ⟨[]⟩, {}, 1118, os⟩
noncomputable abbrev hAn : Option Value := some (.ref 6)
noncomputable abbrev hTb := treeTable
theorem h_pre (w : World) : (fun os => topGo hTb hp w 11 hAn 12 (S0 w os) (topStub hp)) = fun os => some (Sa w os, ⟨denote hTb hC, hC, hP0, [topFrame hP0]⟩) := by kernel_rfl
theorem h_block (w : World) : (fun os => segRun hTb hp w 11 hAn 1 1 (Sa w os) (blockOf hBd hEnv hC hP0 [topFrame hP0])) = fun os => some (.next, (Sb w os).abs, hC, hP0) := by kernel_rfl
theorem h_open : ∀ w : World, (fencedOpening treeTable hp w 8000).map (fun s => (s.heap, s.gens, s.drawn, s.toks)) = some (boot_heap w.params, Array.mk [], boot_drawn, boot_toks) := boot_open (by kernel_rfl) (by decide) (fun s => by kernel_rfl)
theorem h_size (w : World) : ((boot_heap w.params).isNs mainGlobals && (Array.mk ([] : List GenState)).size == 0, (boot_heap w.params).objs.size, (boot_heap w.params).nsMap mainGlobals "__annotations__") = (true, 11, some (.ref 6)) := by kernel_rfl
noncomputable abbrev hXt (s : Shared) : Bool := xlAt hq [] s && recOk (RowW.records PySem.Challenge.rw_pq0770_02.row.toRowW) s
noncomputable abbrev hH : Hook := kHook K kA (fun _ => by kernel_rfl)
end
end Mine
namespace Mine
section
open PySem
set_option backward.match.sparseCases false
structure Nm where
 i : Nat
 lt : Nat.ble i 248 = true
noncomputable instance : DecidableEq Nm := fun a b => if h : a.i = b.i then .isTrue (by cases a; cases b; cases h; rfl) else .isFalse (fun e => h (congrArg Nm.i e))
noncomputable abbrev Nm.k_LEAST : Nm := ⟨0, rfl⟩
noncomputable abbrev Nm.k_GREATEST : Nm := ⟨1, rfl⟩
noncomputable abbrev Nm.k_full : Nm := ⟨2, rfl⟩
noncomputable abbrev Nm.k_single : Nm := ⟨3, rfl⟩
noncomputable abbrev Nm.k_n : Nm := ⟨4, rfl⟩
noncomputable abbrev Nm.k_clipped : Nm := ⟨5, rfl⟩
noncomputable abbrev Nm.k_low : Nm := ⟨6, rfl⟩
noncomputable abbrev Nm.k_high : Nm := ⟨7, rfl⟩
noncomputable abbrev Nm.k_beyond : Nm := ⟨8, rfl⟩
noncomputable abbrev Nm.k_max : Nm := ⟨9, rfl⟩
noncomputable abbrev Nm.k_min : Nm := ⟨10, rfl⟩
noncomputable abbrev Nm.k_add : Nm := ⟨11, rfl⟩
noncomputable abbrev Nm.k_x : Nm := ⟨12, rfl⟩
noncomputable abbrev Nm.k_y : Nm := ⟨13, rfl⟩
noncomputable abbrev Nm.k_sub : Nm := ⟨14, rfl⟩
noncomputable abbrev Nm.k_mul : Nm := ⟨15, rfl⟩
noncomputable abbrev Nm.k_neg : Nm := ⟨16, rfl⟩
noncomputable abbrev Nm.k_absolute : Nm := ⟨17, rfl⟩
noncomputable abbrev Nm.k_div : Nm := ⟨18, rfl⟩
noncomputable abbrev Nm.k_mod : Nm := ⟨19, rfl⟩
noncomputable abbrev Nm.k_within : Nm := ⟨20, rfl⟩
noncomputable abbrev Nm.k_join : Nm := ⟨21, rfl⟩
noncomputable abbrev Nm.k_widen : Nm := ⟨22, rfl⟩
noncomputable abbrev Nm.k_older : Nm := ⟨23, rfl⟩
noncomputable abbrev Nm.k_newer : Nm := ⟨24, rfl⟩
noncomputable abbrev Nm.k_meet : Nm := ⟨25, rfl⟩
noncomputable abbrev Nm.k_below : Nm := ⟨26, rfl⟩
noncomputable abbrev Nm.k_gap : Nm := ⟨27, rfl⟩
noncomputable abbrev Nm.k_left : Nm := ⟨28, rfl⟩
noncomputable abbrev Nm.k_right : Nm := ⟨29, rfl⟩
noncomputable abbrev Nm.k_without : Nm := ⟨30, rfl⟩
noncomputable abbrev Nm.k_apart : Nm := ⟨31, rfl⟩
noncomputable abbrev Nm.k_narrow : Nm := ⟨32, rfl⟩
noncomputable abbrev Nm.k_op : Nm := ⟨33, rfl⟩
noncomputable abbrev Nm.k_turned : Nm := ⟨34, rfl⟩
noncomputable abbrev Nm.k_eq : Nm := ⟨35, rfl⟩
noncomputable abbrev Nm.k_both : Nm := ⟨36, rfl⟩
noncomputable abbrev Nm.k_ne : Nm := ⟨37, rfl⟩
noncomputable abbrev Nm.k_lt : Nm := ⟨38, rfl⟩
noncomputable abbrev Nm.k_le : Nm := ⟨39, rfl⟩
noncomputable abbrev Nm.k_gt : Nm := ⟨40, rfl⟩
noncomputable abbrev Nm.k_opposite : Nm := ⟨41, rfl⟩
noncomputable abbrev Nm.k_ge : Nm := ⟨42, rfl⟩
noncomputable abbrev Nm.k_Ranges : Nm := ⟨43, rfl⟩
noncomputable abbrev Nm.k_init : Nm := ⟨44, rfl⟩
noncomputable abbrev Nm.k_self : Nm := ⟨45, rfl⟩
noncomputable abbrev Nm.k_level : Nm := ⟨46, rfl⟩
noncomputable abbrev Nm.k_slots : Nm := ⟨47, rfl⟩
noncomputable abbrev Nm.k_marking : Nm := ⟨48, rfl⟩
noncomputable abbrev Nm.k_loops : Nm := ⟨49, rfl⟩
noncomputable abbrev Nm.k_written : Nm := ⟨50, rfl⟩
noncomputable abbrev Nm.k_join_envs : Nm := ⟨51, rfl⟩
noncomputable abbrev Nm.k_a : Nm := ⟨52, rfl⟩
noncomputable abbrev Nm.k_b : Nm := ⟨53, rfl⟩
noncomputable abbrev Nm.k_found : Nm := ⟨54, rfl⟩
noncomputable abbrev Nm.k_slot : Nm := ⟨55, rfl⟩
noncomputable abbrev Nm.k_env_within : Nm := ⟨56, rfl⟩
noncomputable abbrev Nm.k_with_slot : Nm := ⟨57, rfl⟩
noncomputable abbrev Nm.k_env : Nm := ⟨58, rfl⟩
noncomputable abbrev Nm.k_interval : Nm := ⟨59, rfl⟩
noncomputable abbrev Nm.k_dict : Nm := ⟨60, rfl⟩
noncomputable abbrev Nm.k_followed_slot : Nm := ⟨61, rfl⟩
noncomputable abbrev Nm.k_st : Nm := ⟨62, rfl⟩
noncomputable abbrev Nm.k_node : Nm := ⟨63, rfl⟩
noncomputable abbrev Nm.k_var : Nm := ⟨64, rfl⟩
noncomputable abbrev Nm.k_value : Nm := ⟨65, rfl⟩
noncomputable abbrev Nm.k_type_range : Nm := ⟨66, rfl⟩
noncomputable abbrev Nm.k_t : Nm := ⟨67, rfl⟩
noncomputable abbrev Nm.k_form : Nm := ⟨68, rfl⟩
noncomputable abbrev Nm.k_byte : Nm := ⟨69, rfl⟩
noncomputable abbrev Nm.k_integer : Nm := ⟨70, rfl⟩
noncomputable abbrev Nm.k_known : Nm := ⟨71, rfl⟩
noncomputable abbrev Nm.k_mark : Nm := ⟨72, rfl⟩
noncomputable abbrev Nm.k_traps : Nm := ⟨73, rfl⟩
noncomputable abbrev Nm.k_sure : Nm := ⟨74, rfl⟩
noncomputable abbrev Nm.k_look_arithmetic : Nm := ⟨75, rfl⟩
noncomputable abbrev Nm.k_steps : Nm := ⟨76, rfl⟩
noncomputable abbrev Nm.k_look : Nm := ⟨77, rfl⟩
noncomputable abbrev Nm.k_plus : Nm := ⟨78, rfl⟩
noncomputable abbrev Nm.k_minus : Nm := ⟨79, rfl⟩
noncomputable abbrev Nm.k_star : Nm := ⟨80, rfl⟩
noncomputable abbrev Nm.k_DIV : Nm := ⟨81, rfl⟩
noncomputable abbrev Nm.k_MOD : Nm := ⟨82, rfl⟩
noncomputable abbrev Nm.k_kids : Nm := ⟨83, rfl⟩
noncomputable abbrev Nm.k_look_index : Nm := ⟨84, rfl⟩
noncomputable abbrev Nm.k_place : Nm := ⟨85, rfl⟩
noncomputable abbrev Nm.k_length : Nm := ⟨86, rfl⟩
noncomputable abbrev Nm.k_inside : Nm := ⟨87, rfl⟩
noncomputable abbrev Nm.k_type : Nm := ⟨88, rfl⟩
noncomputable abbrev Nm.k_array : Nm := ⟨89, rfl⟩
noncomputable abbrev Nm.k_look_std : Nm := ⟨90, rfl⟩
noncomputable abbrev Nm.k_look_lazy : Nm := ⟨91, rfl⟩
noncomputable abbrev Nm.k_kid : Nm := ⟨92, rfl⟩
noncomputable abbrev Nm.k_const : Nm := ⟨93, rfl⟩
noncomputable abbrev Nm.k_index : Nm := ⟨94, rfl⟩
noncomputable abbrev Nm.k_std : Nm := ⟨95, rfl⟩
noncomputable abbrev Nm.k_amp : Nm := ⟨96, rfl⟩
noncomputable abbrev Nm.k_OR : Nm := ⟨97, rfl⟩
noncomputable abbrev Nm.k_quiet : Nm := ⟨98, rfl⟩
noncomputable abbrev Nm.k_kept : Nm := ⟨99, rfl⟩
noncomputable abbrev Nm.k_assume_relation : Nm := ⟨100, rfl⟩
noncomputable abbrev Nm.k_truth : Nm := ⟨101, rfl⟩
noncomputable abbrev Nm.k_parts : Nm := ⟨102, rfl⟩
noncomputable abbrev Nm.k_range : Nm := ⟨103, rfl⟩
noncomputable abbrev Nm.k_part : Nm := ⟨104, rfl⟩
noncomputable abbrev Nm.k_both_ways : Nm := ⟨105, rfl⟩
noncomputable abbrev Nm.k_met : Nm := ⟨106, rfl⟩
noncomputable abbrev Nm.k_inner : Nm := ⟨107, rfl⟩
noncomputable abbrev Nm.k_not : Nm := ⟨108, rfl⟩
noncomputable abbrev Nm.k_held : Nm := ⟨109, rfl⟩
noncomputable abbrev Nm.k_failed : Nm := ⟨110, rfl⟩
noncomputable abbrev Nm.k_assume : Nm := ⟨111, rfl⟩
noncomputable abbrev Nm.k_Node : Nm := ⟨112, rfl⟩
noncomputable abbrev Nm.k_type_of : Nm := ⟨113, rfl⟩
noncomputable abbrev Nm.k_ProcTree : Nm := ⟨114, rfl⟩
noncomputable abbrev Nm.k_obj : Nm := ⟨115, rfl⟩
noncomputable abbrev Nm.k_params : Nm := ⟨116, rfl⟩
noncomputable abbrev Nm.k_locals : Nm := ⟨117, rfl⟩
noncomputable abbrev Nm.k_procs : Nm := ⟨118, rfl⟩
noncomputable abbrev Nm.k_body : Nm := ⟨119, rfl⟩
noncomputable abbrev Nm.k_result : Nm := ⟨120, rfl⟩
noncomputable abbrev Nm.k_nodes_of : Nm := ⟨121, rfl⟩
noncomputable abbrev Nm.k_waiting : Nm := ⟨122, rfl⟩
noncomputable abbrev Nm.k_one : Nm := ⟨123, rfl⟩
noncomputable abbrev Nm.k_append : Nm := ⟨124, rfl⟩
noncomputable abbrev Nm.k_len : Nm := ⟨125, rfl⟩
noncomputable abbrev Nm.k_pop : Nm := ⟨126, rfl⟩
noncomputable abbrev Nm.k_reversed : Nm := ⟨127, rfl⟩
noncomputable abbrev Nm.k_ROUNDS : Nm := ⟨128, rfl⟩
noncomputable abbrev Nm.k_MOST_LOOPS : Nm := ⟨129, rfl⟩
noncomputable abbrev Nm.k_widen_env : Nm := ⟨130, rfl⟩
noncomputable abbrev Nm.k_run_assign : Nm := ⟨131, rfl⟩
noncomputable abbrev Nm.k_run_step : Nm := ⟨132, rfl⟩
noncomputable abbrev Nm.k_change : Nm := ⟨133, rfl⟩
noncomputable abbrev Nm.k_INC : Nm := ⟨134, rfl⟩
noncomputable abbrev Nm.k_run_std : Nm := ⟨135, rfl⟩
noncomputable abbrev Nm.k_ASSERT : Nm := ⟨136, rfl⟩
noncomputable abbrev Nm.k_DEC : Nm := ⟨137, rfl⟩
noncomputable abbrev Nm.k_run_arms : Nm := ⟨138, rfl⟩
noncomputable abbrev Nm.k_last : Nm := ⟨139, rfl⟩
noncomputable abbrev Nm.k_done : Nm := ⟨140, rfl⟩
noncomputable abbrev Nm.k_run : Nm := ⟨141, rfl⟩
noncomputable abbrev Nm.k_run_if : Nm := ⟨142, rfl⟩
noncomputable abbrev Nm.k_turn_of : Nm := ⟨143, rfl⟩
noncomputable abbrev Nm.k_while : Nm := ⟨144, rfl⟩
noncomputable abbrev Nm.k_for : Nm := ⟨145, rfl⟩
noncomputable abbrev Nm.k_for_turn : Nm := ⟨146, rfl⟩
noncomputable abbrev Nm.k_limit : Nm := ⟨147, rfl⟩
noncomputable abbrev Nm.k_step : Nm := ⟨148, rfl⟩
noncomputable abbrev Nm.k_past : Nm := ⟨149, rfl⟩
noncomputable abbrev Nm.k_out : Nm := ⟨150, rfl⟩
noncomputable abbrev Nm.k_back : Nm := ⟨151, rfl⟩
noncomputable abbrev Nm.k_quiet_turn : Nm := ⟨152, rfl⟩
noncomputable abbrev Nm.k_written_slots : Nm := ⟨153, rfl⟩
noncomputable abbrev Nm.k_loop : Nm := ⟨154, rfl⟩
noncomputable abbrev Nm.k_assign : Nm := ⟨155, rfl⟩
noncomputable abbrev Nm.k_loosened : Nm := ⟨156, rfl⟩
noncomputable abbrev Nm.k_run_loop : Nm := ⟨157, rfl⟩
noncomputable abbrev Nm.k_loop_head : Nm := ⟨158, rfl⟩
noncomputable abbrev Nm.k_head : Nm := ⟨159, rfl⟩
noncomputable abbrev Nm.k_rounds : Nm := ⟨160, rfl⟩
noncomputable abbrev Nm.k_grown : Nm := ⟨161, rfl⟩
noncomputable abbrev Nm.k_run_for : Nm := ⟨162, rfl⟩
noncomputable abbrev Nm.k_start : Nm := ⟨163, rfl⟩
noncomputable abbrev Nm.k_label_hull : Nm := ⟨164, rfl⟩
noncomputable abbrev Nm.k_run_case : Nm := ⟨165, rfl⟩
noncomputable abbrev Nm.k_run_typecase : Nm := ⟨166, rfl⟩
noncomputable abbrev Nm.k_block : Nm := ⟨167, rfl⟩
noncomputable abbrev Nm.k_if : Nm := ⟨168, rfl⟩
noncomputable abbrev Nm.k_case : Nm := ⟨169, rfl⟩
noncomputable abbrev Nm.k_typecase : Nm := ⟨170, rfl⟩
noncomputable abbrev Nm.k_repeat : Nm := ⟨171, rfl⟩
noncomputable abbrev Nm.k_taken_slots : Nm := ⟨172, rfl⟩
noncomputable abbrev Nm.k_call : Nm := ⟨173, rfl⟩
noncomputable abbrev Nm.k_kind : Nm := ⟨174, rfl⟩
noncomputable abbrev Nm.k_par : Nm := ⟨175, rfl⟩
noncomputable abbrev Nm.k_named_slots : Nm := ⟨176, rfl⟩
noncomputable abbrev Nm.k_followed_slots : Nm := ⟨177, rfl⟩
noncomputable abbrev Nm.k_proc : Nm := ⟨178, rfl⟩
noncomputable abbrev Nm.k_extend : Nm := ⟨179, rfl⟩
noncomputable abbrev Nm.k_list : Nm := ⟨180, rfl⟩
noncomputable abbrev Nm.k_isparam : Nm := ⟨181, rfl⟩
noncomputable abbrev Nm.k_analyse : Nm := ⟨182, rfl⟩
noncomputable abbrev Nm.k_Type : Nm := ⟨183, rfl⟩
noncomputable abbrev Nm.k_number : Nm := ⟨184, rfl⟩
noncomputable abbrev Nm.k_size : Nm := ⟨185, rfl⟩
noncomputable abbrev Nm.k_base : Nm := ⟨186, rfl⟩
noncomputable abbrev Nm.k_fields : Nm := ⟨187, rfl⟩
noncomputable abbrev Nm.k_module : Nm := ⟨188, rfl⟩
noncomputable abbrev Nm.k_empty : Nm := ⟨189, rfl⟩
noncomputable abbrev Nm.k_label : Nm := ⟨190, rfl⟩
noncomputable abbrev Nm.k_hidden : Nm := ⟨191, rfl⟩
noncomputable abbrev Nm.k_exno : Nm := ⟨192, rfl⟩
noncomputable abbrev Nm.k_Obj : Nm := ⟨193, rfl⟩
noncomputable abbrev Nm.k_name : Nm := ⟨194, rfl⟩
noncomputable abbrev Nm.k_exported : Nm := ⟨195, rfl⟩
noncomputable abbrev Nm.k_readonly : Nm := ⟨196, rfl⟩
noncomputable abbrev Nm.k_offset : Nm := ⟨197, rfl⟩
noncomputable abbrev Nm.k_narrowed : Nm := ⟨198, rfl⟩
noncomputable abbrev Nm.k_Types : Nm := ⟨199, rfl⟩
noncomputable abbrev Nm.k_new : Nm := ⟨200, rfl⟩
noncomputable abbrev Nm.k_string : Nm := ⟨201, rfl⟩
noncomputable abbrev Nm.k_counter : Nm := ⟨202, rfl⟩
noncomputable abbrev Nm.k_boolean : Nm := ⟨203, rfl⟩
noncomputable abbrev Nm.k_char : Nm := ⟨204, rfl⟩
noncomputable abbrev Nm.k_mask : Nm := ⟨205, rfl⟩
noncomputable abbrev Nm.k_nil : Nm := ⟨206, rfl⟩
noncomputable abbrev Nm.k_none : Nm := ⟨207, rfl⟩
noncomputable abbrev Nm.k_made : Nm := ⟨208, rfl⟩
noncomputable abbrev Nm.k_set : Nm := ⟨209, rfl⟩
noncomputable abbrev Nm.k_law_bead : Nm := ⟨210, rfl⟩
noncomputable abbrev Nm.k_string_of : Nm := ⟨211, rfl⟩
noncomputable abbrev Nm.k_abs : Nm := ⟨212, rfl⟩
noncomputable abbrev Nm.k_law_var : Nm := ⟨213, rfl⟩
noncomputable abbrev Nm.k_M : Nm := ⟨214, rfl⟩
noncomputable abbrev Nm.k_law_const : Nm := ⟨215, rfl⟩
noncomputable abbrev Nm.k_law_loops_right : Nm := ⟨216, rfl⟩
noncomputable abbrev Nm.k_types : Nm := ⟨217, rfl⟩
noncomputable abbrev Nm.k_count : Nm := ⟨218, rfl⟩
noncomputable abbrev Nm.k_counters : Nm := ⟨219, rfl⟩
noncomputable abbrev Nm.k_row : Nm := ⟨220, rfl⟩
noncomputable abbrev Nm.k_total : Nm := ⟨221, rfl⟩
noncomputable abbrev Nm.k_kept_in : Nm := ⟨222, rfl⟩
noncomputable abbrev Nm.k_element : Nm := ⟨223, rfl⟩
noncomputable abbrev Nm.k_added : Nm := ⟨224, rfl⟩
noncomputable abbrev Nm.k_lasts : Nm := ⟨225, rfl⟩
noncomputable abbrev Nm.k_turns : Nm := ⟨226, rfl⟩
noncomputable abbrev Nm.k_s : Nm := ⟨227, rfl⟩
noncomputable abbrev Nm.k_top : Nm := ⟨228, rfl⟩
noncomputable abbrev Nm.k_v : Nm := ⟨229, rfl⟩
noncomputable abbrev Nm.k_insert : Nm := ⟨230, rfl⟩
noncomputable abbrev Nm.k_test : Nm := ⟨231, rfl⟩
noncomputable abbrev Nm.k_P : Nm := ⟨232, rfl⟩
noncomputable abbrev Nm.k_law_holds : Nm := ⟨233, rfl⟩
noncomputable abbrev Nm.k_values : Nm := ⟨234, rfl⟩
noncomputable abbrev Nm.k_law_conditions_right : Nm := ⟨235, rfl⟩
noncomputable abbrev Nm.k_names : Nm := ⟨236, rfl⟩
noncomputable abbrev Nm.k_lap : Nm := ⟨237, rfl⟩
noncomputable abbrev Nm.k_sign : Nm := ⟨238, rfl⟩
noncomputable abbrev Nm.k_way : Nm := ⟨239, rfl⟩
noncomputable abbrev Nm.k_truth_now : Nm := ⟨240, rfl⟩
noncomputable abbrev Nm.k_law : Nm := ⟨241, rfl⟩
noncomputable abbrev Nm.k_Types_new : Nm := ⟨242, rfl⟩
noncomputable abbrev Nm.k_Ranges_init : Nm := ⟨243, rfl⟩
noncomputable abbrev Nm.k_Node_init : Nm := ⟨244, rfl⟩
noncomputable abbrev Nm.k_ProcTree_init : Nm := ⟨245, rfl⟩
noncomputable abbrev Nm.k_Type_init : Nm := ⟨246, rfl⟩
noncomputable abbrev Nm.k_Obj_init : Nm := ⟨247, rfl⟩
noncomputable abbrev Nm.k_Types_init : Nm := ⟨248, rfl⟩
noncomputable def nmStrs : List Str := [
 Str.ofString "LEAST", Str.ofString "GREATEST", Str.ofString "full", Str.ofString "single", Str.ofString "n", Str.ofString "clipped",
 Str.ofString "low", Str.ofString "high", Str.ofString "beyond", Str.ofString "max", Str.ofString "min", Str.ofString "add",
 Str.ofString "x", Str.ofString "y", Str.ofString "sub", Str.ofString "mul", Str.ofString "neg", Str.ofString "absolute",
 Str.ofString "div", Str.ofString "mod", Str.ofString "within", Str.ofString "join", Str.ofString "widen", Str.ofString "older",
 Str.ofString "newer", Str.ofString "meet", Str.ofString "below", Str.ofString "gap", Str.ofString "left", Str.ofString "right",
 Str.ofString "without", Str.ofString "apart", Str.ofString "narrow", Str.ofString "op", Str.ofString "turned", Str.ofString "=",
 Str.ofString "both", Str.ofString "#", Str.ofString "<", Str.ofString "<=", Str.ofString ">", Str.ofString "opposite",
 Str.ofString ">=", Str.ofString "Ranges", Str.ofString "__init__", Str.ofString "self", Str.ofString "level", Str.ofString "slots",
 Str.ofString "marking", Str.ofString "loops", Str.ofString "written", Str.ofString "join_envs", Str.ofString "a", Str.ofString "b",
 Str.ofString "found", Str.ofString "slot", Str.ofString "env_within", Str.ofString "with_slot", Str.ofString "env", Str.ofString "interval",
 Str.ofString "dict", Str.ofString "followed_slot", Str.ofString "st", Str.ofString "node", Str.ofString "var", Str.ofString "value",
 Str.ofString "type_range", Str.ofString "t", Str.ofString "form", Str.ofString "byte", Str.ofString "integer", Str.ofString "known",
 Str.ofString "mark", Str.ofString "traps", Str.ofString "sure", Str.ofString "look_arithmetic", Str.ofString "steps", Str.ofString "look",
 Str.ofString "+", Str.ofString "-", Str.ofString "*", Str.ofString "DIV", Str.ofString "MOD", Str.ofString "kids",
 Str.ofString "look_index", Str.ofString "place", Str.ofString "length", Str.ofString "inside", Str.ofString "type", Str.ofString "array",
 Str.ofString "look_std", Str.ofString "look_lazy", Str.ofString "kid", Str.ofString "const", Str.ofString "index", Str.ofString "std",
 Str.ofString "&", Str.ofString "OR", Str.ofString "quiet", Str.ofString "kept", Str.ofString "assume_relation", Str.ofString "truth",
 Str.ofString "parts", Str.ofString "range", Str.ofString "part", Str.ofString "both_ways", Str.ofString "met", Str.ofString "inner",
 Str.ofString "not", Str.ofString "held", Str.ofString "failed", Str.ofString "assume", Str.ofString "Node", Str.ofString "type_of",
 Str.ofString "ProcTree", Str.ofString "obj", Str.ofString "params", Str.ofString "locals", Str.ofString "procs", Str.ofString "body",
 Str.ofString "result", Str.ofString "nodes_of", Str.ofString "waiting", Str.ofString "one", Str.ofString "append", Str.ofString "len",
 Str.ofString "pop", Str.ofString "reversed", Str.ofString "ROUNDS", Str.ofString "MOST_LOOPS", Str.ofString "widen_env", Str.ofString "run_assign",
 Str.ofString "run_step", Str.ofString "change", Str.ofString "INC", Str.ofString "run_std", Str.ofString "ASSERT", Str.ofString "DEC",
 Str.ofString "run_arms", Str.ofString "last", Str.ofString "done", Str.ofString "run", Str.ofString "run_if", Str.ofString "turn_of",
 Str.ofString "while", Str.ofString "for", Str.ofString "for_turn", Str.ofString "limit", Str.ofString "step", Str.ofString "past",
 Str.ofString "out", Str.ofString "back", Str.ofString "quiet_turn", Str.ofString "written_slots", Str.ofString "loop", Str.ofString "assign",
 Str.ofString "loosened", Str.ofString "run_loop", Str.ofString "loop_head", Str.ofString "head", Str.ofString "rounds", Str.ofString "grown",
 Str.ofString "run_for", Str.ofString "start", Str.ofString "label_hull", Str.ofString "run_case", Str.ofString "run_typecase", Str.ofString "block",
 Str.ofString "if", Str.ofString "case", Str.ofString "typecase", Str.ofString "repeat", Str.ofString "taken_slots", Str.ofString "call",
 Str.ofString "kind", Str.ofString "par", Str.ofString "named_slots", Str.ofString "followed_slots", Str.ofString "proc", Str.ofString "extend",
 Str.ofString "list", Str.ofString "isparam", Str.ofString "analyse", Str.ofString "Type", Str.ofString "number", Str.ofString "size",
 Str.ofString "base", Str.ofString "fields", Str.ofString "module", Str.ofString "", Str.ofString "label", Str.ofString "hidden",
 Str.ofString "exno", Str.ofString "Obj", Str.ofString "name", Str.ofString "exported", Str.ofString "readonly", Str.ofString "offset",
 Str.ofString "narrowed", Str.ofString "Types", Str.ofString "new", Str.ofString "string", Str.ofString "counter", Str.ofString "boolean",
 Str.ofString "char", Str.ofString "mask", Str.ofString "nil", Str.ofString "none", Str.ofString "made", Str.ofString "set",
 Str.ofString "_law_bead", Str.ofString "string_of", Str.ofString "abs", Str.ofString "_law_var", Str.ofString "M", Str.ofString "_law_const",
 Str.ofString "_law_loops_right", Str.ofString "types", Str.ofString "count", Str.ofString "counters", Str.ofString "row", Str.ofString "total",
 Str.ofString "kept_in", Str.ofString "element", Str.ofString "added", Str.ofString "lasts", Str.ofString "turns", Str.ofString "s",
 Str.ofString "top", Str.ofString "v", Str.ofString "insert", Str.ofString "test", Str.ofString "P", Str.ofString "_law_holds",
 Str.ofString "values", Str.ofString "_law_conditions_right", Str.ofString "names", Str.ofString "lap", Str.ofString "sign", Str.ofString "way",
 Str.ofString "truth_now", Str.ofString "law", Str.ofString "Types.new", Str.ofString "Ranges.__init__", Str.ofString "Node.__init__", Str.ofString "ProcTree.__init__",
 Str.ofString "Type.__init__", Str.ofString "Obj.__init__", Str.ofString "Types.__init__"]
noncomputable def Nm.str (n : Nm) : Str := nmStrs.getD n.i ""
theorem Nm.all {p : Nm → Bool} (h : (List.range 249).all (fun i => if h : Nat.ble i 248 = true then p ⟨i, h⟩ else true) = true) (n : Nm) : p n = true := by
 have := List.all_eq_true.1 h n.i (List.mem_range.2 (Nat.lt_succ_of_le (Nat.le_of_ble_eq_true n.lt)))
 rw [dif_pos n.lt] at this
 exact this
inductive NmTree where
 | e
 | n (l : NmTree) (k : Nat) (v : Nm) (r : NmTree)
noncomputable def NmTree.find (x : Nat) : NmTree → Option Nm
 | .e => none
 | .n l k v r => if x = k then some v else if x < k then l.find x else r.find x
noncomputable def Str.code (x : Str) : Nat := x.cps.foldl (fun a c => a * 2097152 + c) 1
noncomputable def nmTree : NmTree := (.n (.n (.n (.n (.n (.n (.n (.n .e 1 .k_empty .e) 2097187 .k_ne (.n .e 2097190 .k_amp .e)) 2097194 .k_star (.n (.n .e 2097195 .k_plus .e) 2097197 .k_minus (.n .e 2097212 .k_lt .e))) 2097213 .k_eq (.n (.n (.n .e 2097214 .k_gt .e) 2097229 .k_M (.n .e 2097232 .k_P .e)) 2097249 .k_a (.n (.n .e 2097250 .k_b .e) 2097262 .k_n (.n .e 2097267 .k_s .e)))) 2097268 .k_t (.n (.n (.n (.n .e 2097270 .k_v .e) 2097272 .k_x (.n .e 2097273 .k_y .e)) 4398172340285 .k_le (.n (.n .e 4398176534589 .k_ge .e) 4398212186194 .k_OR (.n .e 4398266712166 .k_if .e))) 4398279295088 .k_op (.n (.n (.n .e 4398287683700 .k_st .e) 9223671104162234435 .k_DEC (.n .e 9223671104170623062 .k_DIV .e)) 9223693094413664323 .k_INC (.n (.n .e 9223710686601805892 .k_MOD .e) 9223719482734674026 .k_Obj (.n .e 9223798647571873907 .k_abs .e))))) 9223798647576068196 .k_add (.n (.n (.n (.n (.n .e 9223811841726087286 .k_div .e) 9223816239783084150 .k_env (.n .e 9223820637831692402 .k_for .e)) 9223825035848843376 .k_gap (.n (.n .e 9223842628051664996 .k_kid .e) 9223847026081398896 .k_lap (.n .e 9223847026081398903 .k_law .e))) 9223847026089787502 .k_len (.n (.n (.n .e 9223847026110759031 .k_low .e) 9223851424127910008 .k_max (.n .e 9223851424136298612 .k_met .e)) 9223851424144687214 .k_min (.n (.n .e 9223851424157270116 .k_mod .e) 9223851424169853036 .k_mul (.n .e 9223855822182809703 .k_neg .e)))) 9223855822182809719 .k_new (.n (.n (.n (.n .e 9223855822191198316 .k_nil .e) 9223855822203781236 .k_not (.n .e 9223860220223029354 .k_obj .e)) 9223860220248195173 .k_one (.n (.n .e 9223860220262875252 .k_out .e) 9223864618267443314 .k_par (.n .e 9223864618296803440 .k_pop .e))) 9223873414389825655 .k_row (.n (.n (.n .e 9223873414402408558 .k_run .e) 9223877812415365236 .k_set (.n .e 9223877812446822500 .k_std .e)) 9223877812448919650 .k_sub (.n (.n .e 9223882210482847856 .k_top .e) 9223891006546509938 .k_var .e))))) 9223895404593021049 .k_way (.n (.n (.n (.n (.n (.n .e 19343532537341124840259685 .k_Node .e) 19343587877617326459191397 .k_Type (.n .e 19343717004720289282523243 .k_back .e)) 19343717004720289316077669 .k_base (.n (.n .e 19343717004781861935775865 .k_body .e) 19343717004781861969330280 .k_both (.n .e 19343717004825842434441317 .k_byte .e))) 19343726228092326156173420 .k_call (.n (.n (.n .e 19343726228092326170853477 .k_case .e) 19343726228123112458682482 .k_char (.n .e 19343735451499547364163700 .k_dict .e)) 19343735451525935666298981 .k_done (.n (.n .e 19343744674937554939674735 .k_exno .e) 19343753898270009384239213 .k_form (.n .e 19343753898296397650722924 .k_full .e)))) 19343772344970102593028196 .k_head (.n (.n (.n (.n .e 19343772344970102616096868 .k_held .e) 19343772344987694791655528 .k_high (.n .e 19343790791758156784468078 .k_join .e)) 19343800015086213188812916 .k_kept (.n (.n .e 19343800015103805349691507 .k_kids .e) 19343800015103805370663012 .k_kind (.n .e 19343809238440657863835764 .k_last .e))) 19343809238458250022617204 .k_left (.n (.n (.n .e 19343809238475842235924596 .k_list .e) 19343809238502230506602603 .k_look (.n .e 19343809238502230506602608 .k_loop .e)) 19343818461812694687154277 .k_made (.n (.n .e 19343818461812694716514411 .k_mark .e) 19343818461812694718611563 .k_mask .e)))) 19343818461830286875295860 .k_meet (.n (.n (.n (.n (.n .e 19343827685184731560804453 .k_name .e) 19343827685246304193085541 .k_node (.n .e 19343827685246304214057061 .k_none .e)) 19343846131928805280841844 .k_part (.n (.n .e 19343846131928805282938996 .k_past .e) 19343846132003572065239139 .k_proc (.n .e 19343873802062508018630758 .k_self .e))) 19343873802080100194189422 .k_sign (.n (.n (.n .e 19343873802080100234035301 .k_size .e) 19343873802093294350499956 .k_slot (.n .e 19343873802128478701617264 .k_step .e)) 19343873802132876775391333 .k_sure (.n (.n .e 19343883025434544888086644 .k_test .e) 19343883025522505812017253 .k_type (.n .e 40566289261736405193387122098260 .k_LEAST .e)))) 40566444004720931418546156601459 .k_Types (.n (.n (.n (.n .e 40566695461097720395863987060836 .k_added .e) 40566695461208400847112132100212 .k_apart (.n .e 40566695461226847665952596689017 .k_array .e)) 40566714803920057637152030195831 .k_below (.n (.n .e 40566714803984621254604127993963 .k_block .e) 40566734146825405200383474663540 .k_const (.n .e 40566734146825405231169789755508 .k_count .e))) 40566792175264746733370175651940 .k_found (.n (.n (.n .e 40566811518105530657159275085934 .k_grown .e) 40566850203694864788766897209464 .k_index (.n .e 40566850203694864832747362320498 .k_inner .e)) 40566888889321092505279037177966 .k_known (.n (.n .e 40566908232014302445692077998188 .k_label .e) 40566908232014302520458900144243 .k_lasts .e)))))) 40566908232051196021800427323500 .k_level (.n (.n (.n (.n (.n (.n (.n .e 40566908232088089470365436215412 .k_limit .e) 40566908232143429711382672572531 .k_loops (.n .e 40566946917640530162204180217971 .k_names .e)) 40566946917677423694332064432242 .k_newer (.n (.n .e 40566966260555101049093959450738 .k_older .e) 40566985603266757852328034828403 .k_parts (.n .e 40566985603368214869966611021925 .k_place .e))) 40566985603423555163760390832243 .k_procs (.n (.n (.n .e 40567004946264339087549475586164 .k_quiet .e) 40567024288892985502869412118629 .k_range (.n .e 40567024288966772448377926844532 .k_right .e)) 40567043631807556433739683725427 .k_slots (.n (.n .e 40567043631881343348461866582132 .k_start .e) 40567043631881343366054048432243 .k_steps (.n .e 40567062974648340405907236061292 .k_total .e)))) 40567062974676010438454948135027 .k_traps (.n (.n (.n (.n .e 40567062974676010526415886745704 .k_truth .e) 40567062974703680629332298956915 .k_turns (.n .e 40567062974740574108683606163571 .k_types .e)) 40567101660145440830340529651813 .k_value (.n (.n .e 40567121003023118255471149973605 .k_while .e) 40567121003032341605517757513838 .k_widen (.n .e 85073228445088544836987175068946661460 .k_ASSERT .e))) 85073918046937697759773036664407982163 .k_ROUNDS (.n (.n (.n .e 85073918047285868626406460739324739699 .k_Ranges .e) 85074526519864120391673425436428206180 .k_append (.n .e 85074526519922148858685061339549794414 .k_assign .e)) 85074526519922148858685114116120510565 .k_assume (.n (.n .e 85074567084470556833772490908340584548 .k_beyond .e) 85074607649347792355093907720653242469 .k_change (.n .e 85074688779295692146840977696219988068 .k_extend .e))))) 85074729343670014647106580435334856804 .k_failed (.n (.n (.n (.n (.n .e 85074729343824757115123764822276046963 .k_fields .e) 85074810473463171712582053390056423534 .k_hidden (.n .e 85074851038379093219842656569430900852 .k_insert .e)) 85074851038379093219842674161587585125 .k_inside (.n (.n .e 85074972732662629765723842263604265064 .k_length .e) 85074972732856057795405064137858875507 .k_locals (.n .e 85075013297675265107969372030146445413 .k_module .e))) 85075053862223673156843738311348453495 .k_narrow (.n (.n (.n .e 85075053862610529373003489094215401586 .k_number .e) 85075094427139594415073296495595749492 .k_offset (.n .e 85075134991862087763525359333558714483 .k_params .e)) 85075216121577873604215664908196380788 .k_repeat (.n (.n .e 85075216121577873631885851387527954548 .k_result .e) 85075216121771301781470905342848139379 .k_rounds (.n .e 85075216121887358595590239514949320806 .k_run_if .e)))) 85075256686474452141565113792286687333 .k_single (.n (.n (.n (.n .e 85075256686687223122710785470551294055 .k_string .e) 85075297251525773239165489422062846052 .k_turned (.n .e 85075378380777331528230302440358936691 .k_values .e)) 85075418945751281410268741989465849966 .k_within (.n (.n .e 178414213440104949879081968675302131038683237 .k_analyse .e) 178414298510737245203704521453390857649520750 .k_boolean (.n .e 178414383581207280864641635485031157251178596 .k_clipped .e))) 178414383581328975554377284426857160778973298 .k_counter (.n (.n (.n .e 178414553722390741256502087046834116897013876 .k_element .e) 178414894004838792123522280023680840835793010 .k_integer (.n .e 178414894005041616142187507379144277251588205 .k_isparam .e)) 178415064145657169142517167538562607473492078 .k_kept_in (.n (.n .e 178415234286678370373605229079838527720521831 .k_marking .e) 178415659640448317853459261979241803906285682 .k_run_for .e))))) 178415659640448317853459261979298978521415780 .k_run_std (.n (.n (.n (.n (.n (.n .e 178415829781631778400062384472431553467646054 .k_turn_of .e) 178415829781794037638205888597806666194354278 .k_type_of (.n .e 178416084992595672545678652502198837676343399 .k_waiting .e)) 178416084992920191312107912800718674481643636 .k_without (.n (.n .e 178416084993285274472202809296661422712815726 .k_written .e) 374157085986959703774940730551904178027228932603988 .k_GREATEST (.n .e 374158691643336258618897493193712991736463787819109 .k_ProcTree .e))) 374161367731143740807411317305772578063481370050655 .k_init (.n (.n (.n .e 374161367732249658175385987738827609549507303309426 .k_law_var .e) 374161724543322129478220497140736663826359767793765 .k_absolute (.n .e 374162081356351223741813430790352348441945409847411 .k_counters .e)) 374162438169040035354531730210915266598942227300452 .k_exported (.n (.n .e 374162616574235988355074079883484162018304860356718 .k_for_turn .e) 374163151792035682579428996596323779887637140078700 .k_interval (.n .e 374163687010005517703290648089614901783205144166500 .k_look_std .e)))) 374163687010005517703290802832175152665970371199076 .k_loosened (.n (.n (.n (.n .e 374164043820737706030732221060734846383310956920932 .k_narrowed .e) 374164043821928693747047785324076299178525094576230 .k_nodes_of (.n .e 374164222227975353070541176141459552576657543921765 .k_opposite .e)) 374164757444924340687991491343642557607586834677881 .k_readonly (.n (.n .e 374164757444924341539852714039853499385538966192228 .k_reversed .e) 374164757446285470683017798178244790698684685746291 .k_run_arms (.n .e 374164757446285470683017798178263237367991617192037 .k_run_case .e))) 374164757446285470683017798178346247777895952941168 .k_run_loop (.n (.n (.n .e 374164757446285470683017798178410811404144147955824 .k_run_step .e) 374165114258548929621038755684704339049397258027109 .k_typecase (.n .e 784669145076131390095914743975848946795053886265574293623 .k_Types_new .e)) 784673260662422835141827074958457798837500917005024231524 .k_law_bead (.n (.n .e 784674383096215524776373624745975774276011035502535770227 .k_both_ways .e) 784677376251568777529773840248847646353379568293249024115 .k_join_envs .e)))) 784678124540407091462491389222432070439888546678242803833 .k_look_lazy (.n (.n (.n (.n (.n .e 784678124540407091462491592046528106919699315595470176356 .k_loop_head .e) 784680743552233218503673729212669301891405606375959560294 .k_string_of (.n .e 784681117696295563546856520789320976749306632199036993655 .k_truth_now .e)) 784682240127947378579802828466921408748263210742597025910 .k_widen_env (.n (.n .e 784682240127947379940932417844842742499544144674671296628 .k_with_slot .e) 1645564974454966562878403240406192965811042965178199928089870419 .k_MOST_LOOPS (.n .e 1645579097944721373563352933903279689767005628446532187168178292 .k_law_const .e))) 1645579097944721373563352933903279689863719694015693725020192883 .k_law_holds (.n (.n (.n .e 1645583805771771206158762384699384100075420536656647179858870382 .k_env_within .e) 1645589298230925788487274774761552009217526529198344673953841260 .k_label_hull (.n .e 1645589298236163812674746741890601861329124826005607774204985464 .k_look_index .e)) 1645593221426993294794728126189183794832202722906691681220821102 .k_quiet_turn (.n (.n .e 1645594006064710219021852903179765508866155761122292078733164654 .k_run_assign .e) 1645595575341640643725483140315321106065970362131361272459952229 .k_type_range (.n .e 3451054178972697125705338189102245486863298986006085672807212519522419 .k_named_slots .e)))) 3451064052000041052193302280604769242763344594229201004741134569701491 .k_taken_slots (.n (.n (.n (.n .e 7237278196474219971031883632564491067194934581257414308276292885782296789087 .k_Obj_init .e) 7237398977066553395625835856366650917778231607512912451525183519525561172069 .k_run_typecase (.n .e 15177665207331587369808397326360511894622307861816153911137220469178720916655308895 .k_Node_init .e)) 15177708629399560114861688672271536437758768156010865131002417586151494865381228639 .k_Type_init (.n (.n .e 15177838895465443357265574633896011118596439396667838234366054101863791583251398772 .k_followed_slot .e) 15177961924570610620306890628888722962392282335104607566248905995439761709108035699 .k_written_slots (.n .e 31829962007562546294002420122485737167653309738822884602919999281397397348480694498623583 .k_Types_init .e))) 31830235195303145467576214374624287509386760073600750288877239091831854246398837437497459 .k_followed_slots (.n (.n (.n .e 66752204826345298201103239022044832124976432730722423883150446962208736620872398871597697466463 .k_Ranges_init .e) 66752682256925439445434027538500005032916091317870261751400567880820186170759094840938813456494 .k_assume_relation (.n .e 66753032372423163503399994076052647334546563003675407896688369218343516727951715037950026711139 .k_look_arithmetic .e)) 139990387601063153043891329120597807564179216142311130711633258992761678922908783820723043269592744052 .k_law_loops_right (.n (.n .e 293579021578049499855691877967305781042639354344707520259533168773199175614356359068390795509697242137100383 .k_ProcTree_init .e) 5678684763797446047086810058245716579687582946084194752459967157602236516584137224000914888555471236858423412024901520440437686403188 .k_law_conditions_right .e)))))))
noncomputable def nmOf (x : Str) : Option Nm := match nmTree.find (Str.code x) with
 | some n => if n.str = x then some n else none
 | none => none
theorem nmOf_str {x : Str} {n : Nm} (h : nmOf x = some n) : n.str = x := by
 unfold nmOf at h
 split at h
 ·split at h
  ·cases h; assumption
  ·cases h
 ·cases h
inductive Op where
 | add | sub | mul | mod
inductive Cm where
 | lt | le | gt | ge | eq | ne | is | isNot | in_ | notIn
inductive X where
 | cnone | cbool (b : Bool) | cint (i : Int) | cstr (s : Nm)
 | loc (x : Nm) | glob (x : Nm)
 | attr (e : X) (n : Nm)
 | sub (e i : X)
 | bin (o : Op) (l r : X)
 | cmp (o : Cm) (l r : X)
 | cmp2 (o₁ o₂ : Cm) (a b c : X)
 | inC (neg : Bool) (e : X) (l : List Nm)
 | not (e : X)
 | and (a b : X)
 | or (a b : X)
 | ite (t b o : X)
 | call (f as : X)
 | meth (o : X) (n : Nm) (as : X)
 | pair (a b : X)
 | list (es : X)
 | dict (kvs : X)
 | comp (elt : X) (v : Nm) (it : X)
 | range (as : X)
 | reversed (e : X)
 | nil
 | cons (h t : X)
inductive S where
 | nil
 | seq (s r : S)
 | expr (e : X)
 | asg (x : Nm) (e : X)
 | asg2 (x y : Nm) (e : X)
 | asgAttr (o : X) (n : Nm) (e : X)
 | asgSub (o i : X) (e : X)
 | augLoc (x : Nm) (op : Op) (e : X)
 | augAttr (o : X) (n : Nm) (op : Op) (e : X)
 | augSub (o i : X) (op : Op) (e : X)
 | ifs (t : X) (b o : S)
 | whl (t : X) (b : S)
 | forIn (x : Nm) (it : X) (b : S)
 | forIn2 (x y : Nm) (it : X) (b : S)
 | ret (e : X)
 | brk
structure Fn where
 params : List Nm
 dflts : List X
 body : S
set_option genInjectivity true in
inductive V where
 | none | bool (b : Bool) | int (i : Int) | str (s : Nm) | pair (a b : V) | obj (i : Nat) | g (n : Nm)
noncomputable def get {α β : Type} [DecidableEq α] (k : α) : List (α × β) → Option β
 | [] => none
 | (a, b) :: r => if a = k then some b else get k r
noncomputable def put {α β : Type} [DecidableEq α] (k : α) (v : β) : List (α × β) → List (α × β)
 | [] => [(k, v)]
 | (a, b) :: r => if a = k then (a, v) :: r else (a, b) :: put k v r
inductive O where
 | inst (c : Nm) (fs : List (Nm × V)) | list (xs : List V) | idict (kvs : List (Int × V)) | sdict (kvs : List (Nm × V))
noncomputable abbrev MH := List O
noncomputable abbrev Loc := List (Nm × V)
section
variable {α β γ : Type}
noncomputable def o1 (a : Option α) (f : α → Option β) : Option β := match a with | some a => f a | none => none
noncomputable def o2 (a : Option (α × β)) (f : α → β → Option γ) : Option γ := match a with | some p => f p.1 p.2 | none => none
noncomputable def opt (a : Option α) (f : α → Option β) (d : Option β) : Option β := match a with | some a => f a | none => d
noncomputable def orE (a b : Option α) : Option α := match a with | some a => some a | none => b
noncomputable def iO (o : Option Bool) (a b : Option γ) : Option γ := match o with | some c => (match c with | true => a | false => b) | none => none
noncomputable def iS (v : V) (f : Nm → Option γ) : Option γ := match v with | .str s => f s | _ => none
noncomputable def iI (v : V) (f : Int → Option γ) : Option γ := match v with | .int s => f s | _ => none
noncomputable def iB (v : V) (f : Bool → Option γ) : Option γ := match v with | .bool s => f s | _ => none
noncomputable def iR (v : V) (f : Nat → Option γ) : Option γ := match v with | .obj i => f i | _ => none
noncomputable def iP (v : V) (f : V → V → Option γ) : Option γ := match v with | .pair a b => f a b | _ => none
noncomputable def oL (o : O) (f : List V → Option γ) : Option γ := match o with | .list l => f l | _ => none
noncomputable def oD (o : O) (f : List (Int × V) → Option γ) : Option γ := match o with | .idict l => f l | _ => none
noncomputable def oS (o : O) (f : List (Nm × V) → Option γ) : Option γ := match o with | .sdict l => f l | _ => none
noncomputable def oI (o : O) (f : Nm → List (Nm × V) → Option γ) : Option γ := match o with | .inst c l => f c l | _ => none
noncomputable def ob (H : MH) (v : V) (f : O → Option γ) : Option γ := iR v fun i => o1 H[i]? f
noncomputable def iL (H : MH) (v : V) (f : List V → Option γ) : Option γ := ob H v fun o => oL o f
noncomputable def nilL (l : List V) (a : Option γ) : Option γ := match l with | [] => a | _ => none
noncomputable def one (l : List V) (f : V → Option γ) : Option γ := match l with | [a] => f a | _ => none
noncomputable def two (l : List V) (f : V → V → Option γ) : Option γ := match l with | [a, b] => f a b | _ => none
noncomputable def three (l : List V) (f : V → V → V → Option γ) : Option γ := match l with | [a, b, c] => f a b c | _ => none
noncomputable def i2 (H : MH) (v : V) (f : V → V → Option γ) : Option γ := orE (iP v f) (iL H v fun l => two l f)
noncomputable def mapO (f : α → Option β) : List α → Option (List β)
 | [] => some []
 | a :: r => o1 (f a) fun b => o1 (mapO f r) fun l => some (b :: l)
theorem hide {G : Prop} (h : ∀ X : Prop, (G → X) → X) : G := h G id
theorem o1_some {a : α} {f : α → Option β} : o1 (some a) f = f a := rfl
theorem o2_some {a : α} {b : β} {f : α → β → Option γ} : o2 (some (a, b)) f = f a b := rfl
theorem orE_some {a : α} {b : Option α} : orE (some a) b = some a := rfl
theorem orE_none {b : Option α} : orE none b = b := rfl
end
noncomputable def truthyV : V → Option Bool
 | .bool b => some b
 | _ => none
noncomputable def iT {γ : Type} (v : V) (a b : Option γ) : Option γ := iO (truthyV v) a b
noncomputable def attrOf (H : MH) (v : V) (n : Nm) : Option V := ob H v fun o => oI o fun _ fs => get n fs
noncomputable def nth (xs : List V) (i : Int) : Option V := if 0 ≤ i then xs[i.toNat]? else if 0 ≤ xs.length + i then xs[(xs.length + i).toNat]? else none
noncomputable def subOf (H : MH) (v k : V) : Option V := orE (iP v fun a b => iI k fun i => if i = 0 then some a else if i = 1 then some b else none)
 (ob H v fun o => orE (oL o fun xs => iI k fun i => nth xs i) (orE (oD o fun kvs => iI k fun i => get i kvs) (oS o fun kvs => iS k fun s => get s kvs)))
noncomputable def int2 {γ : Type} (a b : V) (f : Int → Int → Option γ) : Option γ := iI a fun a => iI b fun b => f a b
noncomputable def addL (a b : V) (H : MH) : Option (V × MH) := iL H a fun xs => iL H b fun ys => if xs.length + ys.length ≤ 100000 then some (.obj H.length, H ++ [.list (xs ++ ys)]) else none
noncomputable def binV (o : Op) (a b : V) (H : MH) : Option (V × MH) := match o with
 | .add => orE (int2 a b fun a b => some (.int (a + b), H)) (addL a b H)
 | .sub => int2 a b fun a b => some (.int (a - b), H)
 | .mul => int2 a b fun a b => if a.natAbs ≤ 100000000 ∧ b.natAbs ≤ 100000000 then some (.int (a * b), H) else none
 | .mod => int2 a b fun a b => if 0 < b then some (.int (a % b), H) else none
noncomputable def eqV (a b : V) : Option Bool := orE (int2 a b fun a b => some (decide (a = b))) (orE (iS a fun a => iS b fun b => some (decide (a = b))) (iB a fun a => iB b fun b => some (decide (a = b))))
noncomputable def neV (a b : V) : Option Bool := orE (int2 a b fun a b => some (!decide (a = b))) (orE (iS a fun a => iS b fun b => some (!decide (a = b)))
 (iP a fun a b' => iP b fun c d => int2 a b' fun a b => int2 c d fun c d => some (!(decide (a = c) && decide (b = d)))))
noncomputable def memInts (i : Int) : List V → Option Bool
 | [] => some false
 | a :: r => iI a fun a => o1 (memInts i r) fun b => some (decide (a = i) || b)
noncomputable def isN : V → Bool
 | .none => true
 | _ => false
noncomputable def eqO (H : MH) (a b : V) : Option Bool := iR a fun i => iR b fun j => o1 H[i]? fun x => oI x fun c _ => o1 H[j]? fun y => oI y fun c' _ => if c = c' then some (decide (i = j)) else none
noncomputable def cmpV (H : MH) (o : Cm) (a b : V) : Option Bool := match o with
 | .lt => int2 a b fun a b => some (decide (a < b))
 | .le => int2 a b fun a b => some (decide (a ≤ b))
 | .gt => int2 a b fun a b => some (decide (a > b))
 | .ge => int2 a b fun a b => some (decide (a ≥ b))
 | .eq => orE (eqV a b) (eqO H a b)
 | .ne => neV a b
 | .is => if isN b = true then some (isN a) else none
 | .isNot => if isN b = true then some (!isN a) else none
 | .in_ => iI a fun i => ob H b fun o => oD o fun kvs => some (get i kvs).isSome
 | .notIn => iI a fun i => iL H b fun xs => o1 (memInts i xs) fun b => some (!b)
noncomputable def stepFrom (a s : Int) : Nat → List V
 | 0 => []
 | n + 1 => .int a :: stepFrom (a + s) s n
noncomputable def rangeV (l : List V) : Option (List V) := orE (one l fun b => iI b fun b => if b.natAbs ≤ 1000 then some (stepFrom 0 1 b.toNat) else none)
 (three l fun a b s => int2 a b fun a b => iI s fun s => if a.natAbs ≤ 1000 ∧ b.natAbs ≤ 1000 then (if s = 2 then some (stepFrom a 2 ((b - a + 1) / 2).toNat) else if s = -1 then some (stepFrom a (-1) (a - b).toNat) else none) else none)
noncomputable def augV (o : Op) (a b : Int) : Option Int := match o with
 | .add => some (a + b) | .sub => some (a - b) | _ => none
inductive Fl where
 | next | brk | ret (v : V)
noncomputable abbrev CF := V → List V → MH → Option (V × MH)
noncomputable def isBi (n : Nm) : Bool := decide (n = .k_max) || decide (n = .k_min) || decide (n = .k_abs) || decide (n = .k_len) || decide (n = .k_dict) || decide (n = .k_list)
noncomputable def biI2 (f : Int → Int → Int) (as : List V) (H : MH) : Option (V × MH) := two as fun a b => int2 a b fun a b => some (.int (f a b), H)
noncomputable def biF (n : Nm) (as : List V) (H : MH) : Option (V × MH) :=
 if n = .k_max then biI2 max as H
 else if n = .k_min then biI2 min as H
 else if n = .k_abs then one as fun a => iI a fun a => some (.int a.natAbs, H)
 else if n = .k_len then one as fun a => iL H a fun xs => some (.int xs.length, H)
 else if n = .k_dict then one as fun a => ob H a fun o => oD o fun kvs => some (.obj H.length, H ++ [.idict kvs])
 else if n = .k_list then one as fun a => iL H a fun xs => some (.obj H.length, H ++ [.list xs])
 else none
noncomputable def insMeth (c n : Nm) : Option Nm := if c = .k_Types ∧ n = .k_new then some .k_Types_new else none
noncomputable def methOf (H : MH) (ov : V) (n : Nm) : Option (Option Nm) := ob H ov fun o => orE (oI o fun c _ => o1 (insMeth c n) fun f => some (some f))
 (oL o fun _ => if n = .k_append ∨ n = .k_pop ∨ n = .k_insert then some none else none)
noncomputable def listM (i : Nat) (n : Nm) (vs : List V) (H : MH) : Option (V × MH) := o1 H[i]? fun o => oL o fun xs =>
 if n = .k_append then one vs fun v => if xs.length < 100000 then some (.none, H.set i (.list (xs ++ [v]))) else none
 else if n = .k_pop then nilL vs (o1 xs.getLast? fun v => some (v, H.set i (.list xs.dropLast)))
 else if n = .k_insert then two vs fun k v => iI k fun k => if k = 0 ∧ xs.length < 100000 then some (.none, H.set i (.list (v :: xs))) else none
 else none
noncomputable def methV (cf : CF) (m : Option Nm) (ov : V) (n : Nm) (vs : List V) (H : MH) : Option (V × MH) := opt m (fun f => cf (.g f) (ov :: vs) H) (iR ov fun i => listM i n vs H)
noncomputable def okAttrL : List Nm := [.k_level, .k_slots, .k_marking, .k_loops, .k_written, .k_op, .k_place, .k_type, .k_kids, .k_value, .k_sure, .k_obj, .k_params, .k_locals, .k_procs, .k_body, .k_result, .k_number, .k_form, .k_size, .k_base, .k_length, .k_fields, .k_module, .k_label, .k_hidden, .k_exno, .k_name, .k_kind, .k_exported, .k_readonly, .k_slot, .k_offset, .k_isparam, .k_narrowed, .k_counter, .k_known, .k_boolean, .k_char, .k_byte, .k_integer, .k_mask, .k_nil, .k_none]
noncomputable def okAttr (n : Nm) : Bool := decide (n ∈ okAttrL)
noncomputable def setAttrV (H : MH) (ov : V) (n : Nm) (v : V) : Option MH := iR ov fun i => o1 H[i]? fun o => oI o fun c fs => if okAttr n = true ∧ fs.length < 100 then some (H.set i (.inst c (put n v fs))) else none
noncomputable def setSubV (H : MH) (ov k v : V) : Option MH := iI k fun j => iR ov fun i => o1 H[i]? fun o => orE (oD o fun kvs => if kvs.length < 100000 then some (H.set i (.idict (put j v kvs))) else none)
 (oL o fun xs => if 0 ≤ j ∧ j < xs.length then some (H.set i (.list (xs.set j.toNat v))) else none)
noncomputable def kI (v : V) : Option (Int × V) := iP v fun k v => iI k fun i => some (i, v)
noncomputable def kS (v : V) : Option (Nm × V) := iP v fun k v => iS k fun i => some (i, v)
noncomputable def putAll {α : Type} [DecidableEq α] (l : List (α × V)) : List (α × V) := l.foldl (fun m p => put p.1 p.2 m) []
noncomputable def dispV (kvs : List V) : Option O := orE (o1 (mapO kI kvs) fun l => some (.idict (putAll l))) (o1 (mapO kS kvs) fun l => some (.sdict (putAll l)))
noncomputable def gv (n : Nm) : V := if n = .k_LEAST then .int (-2147483648) else if n = .k_GREATEST then .int 2147483647 else if n = .k_ROUNDS then .int 2 else if n = .k_MOST_LOOPS then .int 2 else .g n
noncomputable def compL (f : V → MH → Option (V × MH)) : List V → MH → Option (List V × MH)
 | [], H => some ([], H)
 | v :: r, H => o2 (f v H) fun w H => o2 (compL f r H) fun l H => some (w :: l, H)
noncomputable def compG (f : V → MH → Option (V × MH)) (ok : MH → Bool) : List V → MH → Option (List V × MH)
 | [], H => if ok H = true then some ([], H) else none
 | v :: r, H => if ok H = true then o2 (f v H) fun w H => o2 (compG f ok r H) fun l H => some (w :: l, H) else none
noncomputable def itemsV (H : MH) (v : V) : Option (List V) := ob H v fun o => orE (oL o some) (oD o fun kvs => some (kvs.map fun p => .int p.1))
open Classical in
noncomputable def okV (H₀ : MH) (v : V) (H : MH) : Bool := match v with
 | .obj i => decide (H[i]? = H₀[i]?)
 | _ => false
mutual
noncomputable def evE (cf : CF) (ρ : Loc) : X → MH → Option (V × MH)
 | .cnone, H => some (.none, H)
 | .cbool b, H => some (.bool b, H)
 | .cint i, H => some (.int i, H)
 | .cstr s, H => some (.str s, H)
 | .loc x, H => o1 (get x ρ) fun v => some (v, H)
 | .glob x, H => some (gv x, H)
 | .attr e n, H => o2 (evE cf ρ e H) fun v H => o1 (attrOf H v n) fun w => some (w, H)
 | .sub e i, H => o2 (evE cf ρ e H) fun v H => o2 (evE cf ρ i H) fun k H => o1 (subOf H v k) fun w => some (w, H)
 | .bin o l r, H => o2 (evE cf ρ l H) fun a H => o2 (evE cf ρ r H) fun b H => binV o a b H
 | .cmp o l r, H => o2 (evE cf ρ l H) fun a H => o2 (evE cf ρ r H) fun b H => o1 (cmpV H o a b) fun c => some (.bool c, H)
 | .cmp2 o₁ o₂ a b c, H => o2 (evE cf ρ a H) fun a H => o2 (evE cf ρ b H) fun b H => iO (cmpV H o₁ a b) (o2 (evE cf ρ c H) fun c H => o1 (cmpV H o₂ b c) fun t => some (.bool t, H)) (some (.bool false, H))
 | .inC neg e l, H => o2 (evE cf ρ e H) fun v H => iS v fun s => if l.length ≤ 100 then some (.bool (neg.xor (decide (s ∈ l))), H) else none
 | .not e, H => o2 (evE cf ρ e H) fun v H => o1 (truthyV v) fun b => some (.bool (!b), H)
 | .and a b, H => o2 (evE cf ρ a H) fun v H => iT v (evE cf ρ b H) (some (v, H))
 | .or a b, H => o2 (evE cf ρ a H) fun v H => iT v (some (v, H)) (evE cf ρ b H)
 | .ite t b o, H => o2 (evE cf ρ t H) fun v H => iT v (evE cf ρ b H) (evE cf ρ o H)
 | .call f as, H => o2 (evE cf ρ f H) fun f H => o2 (evEs cf ρ as H) fun vs H => cf f vs H
 | .meth o n as, H => o2 (evE cf ρ o H) fun ov H => o1 (methOf H ov n) fun m => o2 (evEs cf ρ as H) fun vs H => if vs.length ≤ 20 then methV cf m ov n vs H else none
 | .pair a b, H => o2 (evE cf ρ a H) fun a H => o2 (evE cf ρ b H) fun b H => some (.pair a b, H)
 | .list es, H => o2 (evEs cf ρ es H) fun vs H => if vs.length ≤ 100 then some (.obj H.length, H ++ [.list vs]) else none
 | .dict kvs, H => o2 (evEs cf ρ kvs H) fun vs H => if vs.length ≤ 15 then o1 (dispV vs) (fun o => some (.obj H.length, H ++ [o])) else none
 | .comp e v it, H => match it with
  | .range as => o2 (evEs cf ρ as H) fun vs H => o1 (rangeV vs) fun items => o2 (compL (fun a H => evE cf (put v a ρ) e H) items H) fun l H => some (.obj H.length, H ++ [.list l])
  | .loc x => o1 (get x ρ) fun w => iL H w fun items => if items.length ≤ 1000 then o2 (compG (fun a H => evE cf (put v a ρ) e H) (okV H w) items H) (fun l H => some (.obj H.length, H ++ [.list l])) else none
  | _ => none
 | .range _, _ => none
 | .reversed _, _ => none
 | .nil, _ => none
 | .cons _ _, _ => none
noncomputable def evEs (cf : CF) (ρ : Loc) : X → MH → Option (List V × MH)
 | .nil, H => some ([], H)
 | .cons e r, H => o2 (evE cf ρ e H) fun v H => o2 (evEs cf ρ r H) fun vs H => some (v :: vs, H)
 | _, _ => none
end
noncomputable abbrev Res := Option (Fl × Loc × MH)
noncomputable def sq (a : Res) (f : Loc → MH → Res) : Res := match a with
 | some (.next, ρ, H) => f ρ H
 | o => o
noncomputable def lp (a : Res) (f : Loc → MH → Res) : Res := match a with
 | some (.next, ρ, H) => f ρ H
 | some (.brk, ρ, H) => some (.next, ρ, H)
 | o => o
noncomputable def en (a : Res) : Option (V × MH) := match a with
 | some (.ret v, _, H) => some (v, H)
 | some (.next, _, H) => some (.none, H)
 | _ => none
noncomputable def forL (turn : V → Loc → MH → Res) : List V → Loc → MH → Res
 | [], ρ, H => some (.next, ρ, H)
 | v :: r, ρ, H => lp (turn v ρ H) fun ρ H => forL turn r ρ H
noncomputable def forG (turn : V → Loc → MH → Res) (ok : MH → Bool) : List V → Loc → MH → Res
 | [], ρ, H => if ok H = true then some (.next, ρ, H) else none
 | v :: r, ρ, H => if ok H = true then lp (turn v ρ H) fun ρ H => forG turn ok r ρ H else none
noncomputable def whF (test : Loc → MH → Option (V × MH)) (turn : Loc → MH → Res) : Nat → Loc → MH → Res
 | 0, _, _ => none
 | n + 1, ρ, H => o2 (test ρ H) fun v H => iT v (lp (turn ρ H) fun ρ H => whF test turn n ρ H) (some (.next, ρ, H))
noncomputable def evS (cf : CF) : S → Loc → MH → Res
 | .nil, ρ, H => some (.next, ρ, H)
 | .seq s r, ρ, H => sq (evS cf s ρ H) fun ρ H => evS cf r ρ H
 | .expr e, ρ, H => o2 (evE cf ρ e H) fun _ H => some (.next, ρ, H)
 | .asg x e, ρ, H => o2 (evE cf ρ e H) fun v H => some (.next, put x v ρ, H)
 | .asg2 x y e, ρ, H => o2 (evE cf ρ e H) fun v H => i2 H v fun a b => some (.next, put y b (put x a ρ), H)
 | .asgAttr o n e, ρ, H => o2 (evE cf ρ e H) fun v H => o2 (evE cf ρ o H) fun ov H => o1 (setAttrV H ov n v) fun H => some (.next, ρ, H)
 | .asgSub o i e, ρ, H => o2 (evE cf ρ e H) fun v H => o2 (evE cf ρ o H) fun ov H => o2 (evE cf ρ i H) fun k H => o1 (setSubV H ov k v) fun H => some (.next, ρ, H)
 | .augLoc x op e, ρ, H => o1 (get x ρ) fun v => iI v fun a => o2 (evE cf ρ e H) fun v H => iI v fun b => o1 (augV op a b) fun c => some (.next, put x (.int c) ρ, H)
 | .augAttr o n op e, ρ, H => o2 (evE cf ρ o H) fun ov H => o1 (attrOf H ov n) fun v => iI v fun a => o2 (evE cf ρ e H) fun v H => iI v fun b => o1 (augV op a b) fun c => o1 (setAttrV H ov n (.int c)) fun H => some (.next, ρ, H)
 | .augSub o i op e, ρ, H => o2 (evE cf ρ o H) fun ov H => o2 (evE cf ρ i H) fun k H => o1 (subOf H ov k) fun v => iI v fun a => o2 (evE cf ρ e H) fun v H => iI v fun b => o1 (augV op a b) fun c => o1 (setSubV H ov k (.int c)) fun H => some (.next, ρ, H)
 | .ifs t b o, ρ, H => o2 (evE cf ρ t H) fun v H => iT v (evS cf b ρ H) (evS cf o ρ H)
 | .whl t b, ρ, H => whF (fun ρ H => evE cf ρ t H) (fun ρ H => evS cf b ρ H) 500 ρ H
 | .forIn x it b, ρ, H => match it with
  | .range as => o2 (evEs cf ρ as H) fun vs H => o1 (rangeV vs) fun items => forL (fun v ρ H => evS cf b (put x v ρ) H) items ρ H
  | .reversed e => o2 (evE cf ρ e H) fun w H => iL H w fun xs => forG (fun v ρ H => evS cf b (put x v ρ) H) (okV H w) xs.reverse ρ H
  | e => o2 (evE cf ρ e H) fun w H => o1 (itemsV H w) fun items => forG (fun v ρ H => evS cf b (put x v ρ) H) (okV H w) items ρ H
 | .forIn2 x y it b, ρ, H => o2 (evE cf ρ it H) fun w H => iL H w fun xs => forG (fun v ρ H => iP v fun c d => evS cf b (put y d (put x c ρ)) H) (okV H w) xs ρ H
 | .ret e, ρ, H => o2 (evE cf ρ e H) fun v H => some (.ret v, ρ, H)
 | .brk, ρ, H => some (.brk, ρ, H)
noncomputable def constV : X → V
 | .cbool b => .bool b
 | .cint i => .int i
 | .cstr s => .str s
 | _ => .none
noncomputable def bindP (fn : Fn) (as : List V) : Option Loc :=
 let all := as ++ (fn.dflts.map constV).drop (as.length + fn.dflts.length - fn.params.length)
 if all.length = fn.params.length ∧ as.length ≤ fn.params.length then some (fn.params.zip all) else none
noncomputable def runFn (cf : CF) (fn : Fn) (as : List V) (H : MH) : Option (V × MH) := o1 (bindP fn as) fun ρ => en (evS cf fn.body ρ H)
noncomputable def iG {γ : Type} (v : V) (f : Nm → Option γ) : Option γ := match v with | .g n => f n | _ => none
noncomputable def callF (fnTab : Nm → Option Fn) (clsTab : Nm → Option Nm) : Nat → V → List V → MH → Option (V × MH)
 | 0, _, _, _ => none
 | n + 1, f, as, H => iG f fun nm => if isBi nm = true then biF nm as H else
   opt (fnTab nm) (fun fn => runFn (callF fnTab clsTab n) fn as H)
    (o1 (clsTab nm) fun i => o1 (fnTab i) fun init => o2 (runFn (callF fnTab clsTab n) init (.obj H.length :: as) (H ++ [.inst nm []])) fun v H' => if isN v = true then some (.obj H.length, H') else none)
noncomputable def opOf : Operator → Option Op
 | .Add => some .add | .Sub => some .sub | .Mult => some .mul | .Mod => some .mod | _ => none
noncomputable def cmOf : CmpOp → Option Cm
 | .Lt => some .lt | .LtE => some .le | .Gt => some .gt | .GtE => some .ge | .Eq => some .eq | .NotEq => some .ne
 | .Is => some .is | .IsNot => some .isNot | .In => some .in_ | .NotIn => some .notIn
noncomputable def nmP (s : Str) : Option {n : Nm // Nm.str n = s} := match h : nmOf s with | some n => some ⟨n, nmOf_str h⟩ | none => none
noncomputable def strC : (c : Const) → Option {n : Nm // c = .str n.str}
 | .str s => o1 (nmP s) fun n => some ⟨n.1, congrArg Const.str n.2.symm⟩
 | _ => none
noncomputable def strP : (e : Expr) → Option {n : Nm // ∃ k p, e = .Constant (.str n.str) k p}
 | .Constant c k p => o1 (strC c) fun n => some ⟨n.1, k, p, congrArg (Expr.Constant · k p) n.2⟩
 | _ => none
noncomputable def strOf (e : Expr) : Option Nm := (strP e).map (·.1)
noncomputable def strsOf : List Expr → Option (List Nm)
 | [] => some []
 | e :: r => match strOf e, strsOf r with | some n, some l => some (n :: l) | _, _ => none
noncomputable def notCall : Expr → Bool
 | .Call .. => false
 | _ => true
noncomputable def notAttr : Expr → Bool
 | .Attribute .. => false
 | _ => true
noncomputable def isTupleX : Expr → Bool
 | .Tuple .. => true
 | _ => false
noncomputable def isCompX : Expr → Bool
 | .ListComp .. => true
 | _ => false
noncomputable def compSc (sc csc : Scope) (v : Str) : Bool := csc.kind == .function && csc.names.all (fun p => p.2 != .cell && (p.2 != .local || (csc.names.lookup p.1 == some .local && (p.1 == v || p.1 == (".0" : Str))))) && csc.names.lookup v == some .local && decide ((csc.names.filter fun p => p.2 == .free).length ≤ 1) && csc.names.all (fun p => p.2 != .free || (csc.names.lookup p.1 == some .free && (sc.names.lookup p.1 == some .cell || sc.names.lookup p.1 == some .free)))
noncomputable def globNames : List Nm := [.k_LEAST, .k_GREATEST, .k_full, .k_single, .k_clipped, .k_add, .k_sub, .k_mul, .k_neg, .k_absolute, .k_div, .k_mod, .k_within, .k_join, .k_widen, .k_meet, .k_below, .k_without, .k_apart, .k_narrow, .k_opposite, .k_Ranges, .k_join_envs, .k_env_within, .k_with_slot, .k_followed_slot, .k_type_range, .k_known, .k_mark, .k_look_arithmetic, .k_look_index, .k_look_std, .k_look_lazy, .k_look, .k_quiet, .k_assume_relation, .k_both_ways, .k_assume, .k_Node, .k_ProcTree, .k_nodes_of, .k_ROUNDS, .k_MOST_LOOPS, .k_widen_env, .k_run_assign, .k_run_step, .k_run_std, .k_run_arms, .k_run_if, .k_turn_of, .k_for_turn, .k_quiet_turn, .k_written_slots, .k_loosened, .k_run_loop, .k_loop_head, .k_run_for, .k_label_hull, .k_run_case, .k_run_typecase, .k_run, .k_taken_slots, .k_named_slots, .k_followed_slots, .k_analyse, .k_Type, .k_Obj, .k_Types, .k_law_bead, .k_law_var, .k_law_const, .k_law_loops_right, .k_law_holds, .k_law_conditions_right, .k_law, .k_max, .k_min, .k_abs, .k_len, .k_dict, .k_list]
noncomputable abbrev lk (sc : Scope) (x : Str) (k : NameKind) : Prop := sc.names.lookup x = some k
noncomputable def locIn (sc : Scope) (x : Str) : Prop := lk sc x .local ∨ lk sc x .cell ∨ lk sc x .free
inductive Syn where
 | e (e : Expr) | es (l : List Expr) | an (l : List Expr) | or (l : List Expr) | kv (ks : List (Option Expr)) (vs : List Expr) | it (e : Expr)
inductive Tr : Scope → Syn → X → Prop
 | cnone {sc k p} : Tr sc (.e (.Constant .none k p)) .cnone
 | cbool {sc b k p} : Tr sc (.e (.Constant (.bool b) k p)) (.cbool b)
 | cint {sc i k p} : Tr sc (.e (.Constant (.int i) k p)) (.cint i)
 | cstr {sc s n k p} (h : Nm.str n = s) : Tr sc (.e (.Constant (.str s) k p)) (.cstr n)
 | loc {sc s n p} (h : Nm.str n = s) (l : locIn sc s) : Tr sc (.e (.Name s p)) (.loc n)
 | glob {sc s n p} (h : Nm.str n = s) (l : lk sc s .globalImplicit) (m : n ∈ globNames) : Tr sc (.e (.Name s p)) (.glob n)
 | usub {sc i k p q} : Tr sc (.e (.UnaryOp .USub (.Constant (.int i) k q) p)) (.cint (-i))
 | not {sc e x p} (a : Tr sc (.e e) x) : Tr sc (.e (.UnaryOp .Not e p)) (.not x)
 | and {sc l x p} (a : Tr sc (.an l) x) : Tr sc (.e (.BoolOp .And l p)) x
 | or {sc l x p} (a : Tr sc (.or l) x) : Tr sc (.e (.BoolOp .Or l p)) x
 | bin {sc op o l r x y p} (ho : opOf op = some o) (a : Tr sc (.e l) x) (b : Tr sc (.e r) y) : Tr sc (.e (.BinOp l op r p)) (.bin o x y)
 | ite {sc t b o x y z p} (a : Tr sc (.e t) x) (c : Tr sc (.e b) y) (d : Tr sc (.e o) z) : Tr sc (.e (.IfExp t b o p)) (.ite x y z)
 | dict {sc ks vs x p} (a : Tr sc (.kv ks vs) x) : Tr sc (.e (.Dict ks vs p)) (.dict x)
 | list {sc es x p} (a : Tr sc (.es es) x) : Tr sc (.e (.List es p)) (.list x)
 | pair {sc a b x y k p} (c : Tr sc (.e a) x) (d : Tr sc (.e b) y) : Tr sc (.e (.Tuple [a, b] k p)) (.pair x y)
 | inC {sc op neg l es ss x k q p} (ho : (op = .In ∧ neg = false) ∨ (op = .NotIn ∧ neg = true)) (hs : strsOf es = some ss) (a : Tr sc (.e l) x) : Tr sc (.e (.Compare l [op] [.Tuple es k q] p)) (.inC neg x ss)
 | cmp {sc op o l r x y p} (ho : cmOf op = some o) (a : Tr sc (.e l) x) (b : Tr sc (.e r) y) : Tr sc (.e (.Compare l [op] [r] p)) (.cmp o x y)
 | cmp2 {sc op op' o o' l r t x y z p} (ho : cmOf op = some o) (ho' : cmOf op' = some o') (a : Tr sc (.e l) x) (b : Tr sc (.e r) y) (c : Tr sc (.e t) z) : Tr sc (.e (.Compare l [op, op'] [r, t] p)) (.cmp2 o o' x y z)
 | meth {sc o s n ap as p x y} (hn : Nm.str n = s) (h1 : notCall o = true) (h2 : (ap.endLine == p.line) = true) (a : Tr sc (.e o) x) (b : Tr sc (.es as) y) : Tr sc (.e (.Call (.Attribute o s ap) as [] p)) (.meth x n y)
 | call {sc f as p x y} (h : notAttr f = true) (a : Tr sc (.e f) x) (b : Tr sc (.es as) y) : Tr sc (.e (.Call f as [] p)) (.call x y)
 | attr {sc e s n p x} (hn : Nm.str n = s) (h : notCall e = true) (a : Tr sc (.e e) x) : Tr sc (.e (.Attribute e s p)) (.attr x n)
 | sub {sc e i p x y} (a : Tr sc (.e e) x) (b : Tr sc (.e i) y) : Tr sc (.e (.Subscript e i p)) (.sub x y)
 | comp {sc csc elt v n it vp p x y} (hn : Nm.str n = v) (hc : compSc sc csc v = true) (a : Tr csc (.e elt) x) (b : Tr sc (.it it) y) : Tr sc (.e (.ListComp elt [⟨.Name v vp, it, [], 0⟩] csc p)) (.comp x n y)
 | nil {sc} : Tr sc (.es []) .nil
 | cons {sc e r x y} (a : Tr sc (.e e) x) (b : Tr sc (.es r) y) : Tr sc (.es (e :: r)) (.cons x y)
 | an1 {sc e x} (a : Tr sc (.e e) x) : Tr sc (.an [e]) x
 | anC {sc e d r x y} (a : Tr sc (.e e) x) (b : Tr sc (.an (d :: r)) y) : Tr sc (.an (e :: d :: r)) (.and x y)
 | or1 {sc e x} (a : Tr sc (.e e) x) : Tr sc (.or [e]) x
 | orC {sc e d r x y} (a : Tr sc (.e e) x) (b : Tr sc (.or (d :: r)) y) : Tr sc (.or (e :: d :: r)) (.or x y)
 | kv0 {sc} : Tr sc (.kv [] []) .nil
 | kvC {sc k ks v vs x y z} (a : Tr sc (.e k) x) (b : Tr sc (.e v) y) (c : Tr sc (.kv ks vs) z) : Tr sc (.kv (some k :: ks) (v :: vs)) (.cons (.pair x y) z)
 | itR {sc s as p q x} (hs : Nm.str .k_range = s) (l : lk sc s .globalImplicit) (a : Tr sc (.es as) x) : Tr sc (.it (.Call (.Name s q) as [] p)) (.range x)
 | itL {sc e n} (a : Tr sc (.e e) (.loc n)) : Tr sc (.it e) (.loc n)
noncomputable def ck {β : Type} (b : Bool) (f : b = true → Option β) : Option β := match b, f with | true, f => f rfl | false, _ => none
noncomputable abbrev TE (sc : Scope) (s : Syn) := Option {x : X // Tr sc s x}
noncomputable def got {α : Type} (o : Option α) : Option {a : α // o = some a} := match o with | some a => some ⟨a, rfl⟩ | none => none
noncomputable def trC (sc : Scope) (k : Nat) (p : Pos) : (c : Const) → TE sc (.e (.Constant c k p))
 | .none => some ⟨.cnone, .cnone⟩
 | .bool b => some ⟨.cbool b, .cbool⟩
 | .int i => some ⟨.cint i, .cint⟩
 | .str s => o1 (nmP s) fun n => some ⟨.cstr n.1, .cstr n.2⟩
 | _ => none
noncomputable def trN1 (sc : Scope) (s : Str) (p : Pos) (n : {n : Nm // Nm.str n = s}) : (k : NameKind) → lk sc s k → TE sc (.e (.Name s p))
 | .local, h => some ⟨.loc n.1, .loc n.2 (.inl h)⟩
 | .cell, h => some ⟨.loc n.1, .loc n.2 (.inr (.inl h))⟩
 | .free, h => some ⟨.loc n.1, .loc n.2 (.inr (.inr h))⟩
 | .globalImplicit, h => if m : n.1 ∈ globNames then some ⟨.glob n.1, .glob n.2 h m⟩ else none
 | _, _ => none
noncomputable def trN (sc : Scope) (s : Str) (p : Pos) : TE sc (.e (.Name s p)) := o1 (nmP s) fun n => o1 (got (sc.names.lookup s)) fun k => trN1 sc s p n k.1 k.2
noncomputable def trUs (sc : Scope) (p : Pos) : (e : Expr) → TE sc (.e (.UnaryOp .USub e p))
 | .Constant (.int i) _ _ => some ⟨.cint (-i), .usub⟩
 | _ => none
noncomputable def trU (sc : Scope) (e : Expr) (p : Pos) (x : TE sc (.e e)) : (op : UnaryOp) → TE sc (.e (.UnaryOp op e p))
 | .Not => o1 x fun x => some ⟨.not x.1, .not x.2⟩
 | .USub => trUs sc p e
 | _ => none
noncomputable def trB (sc : Scope) (l : List Expr) (p : Pos) (a : TE sc (.an l)) (b : TE sc (.or l)) : (op : BoolOp) → TE sc (.e (.BoolOp op l p))
 | .And => o1 a fun x => some ⟨x.1, .and x.2⟩
 | .Or => o1 b fun x => some ⟨x.1, .or x.2⟩
noncomputable def trCm (sc : Scope) (l : Expr) (op : CmpOp) (p : Pos) (x : {x : X // Tr sc (.e l) x}) (r : Expr) (y : TE sc (.e r)) : TE sc (.e (.Compare l [op] [r] p)) :=
 o1 (got (cmOf op)) fun o => o1 y fun y => some ⟨.cmp o.1 x.1 y.1, .cmp o.2 x.2 y.2⟩
noncomputable def trIn (sc : Scope) (l : Expr) (p : Pos) (x : {x : X // Tr sc (.e l) x}) (es : List Expr) (k : Nat) (q : Pos) (y : TE sc (.e (.Tuple es k q))) : (op : CmpOp) → TE sc (.e (.Compare l [op] [.Tuple es k q] p))
 | .In => o1 (got (strsOf es)) fun ss => some ⟨.inC false x.1 ss.1, .inC (.inl ⟨rfl, rfl⟩) ss.2 x.2⟩
 | .NotIn => o1 (got (strsOf es)) fun ss => some ⟨.inC true x.1 ss.1, .inC (.inr ⟨rfl, rfl⟩) ss.2 x.2⟩
 | op => trCm sc l op p x _ y
noncomputable def trCm1 (sc : Scope) (l : Expr) (op : CmpOp) (p : Pos) (x : {x : X // Tr sc (.e l) x}) : (r : Expr) → TE sc (.e r) → TE sc (.e (.Compare l [op] [r] p))
 | .Tuple es k q, y => trIn sc l p x es k q y op
 | r, y => trCm sc l op p x r y
mutual
noncomputable def trE (sc : Scope) : (e : Expr) → TE sc (.e e)
 | .Constant c k p => trC sc k p c
 | .Name s p => trN sc s p
 | .UnaryOp op e p => trU sc e p (trE sc e) op
 | .BoolOp op l p => trB sc l p (trAn sc l) (trOr sc l) op
 | .BinOp l op r p => o1 (got (opOf op)) fun o => o1 (trE sc l) fun x => o1 (trE sc r) fun y => some ⟨.bin o.1 x.1 y.1, .bin o.2 x.2 y.2⟩
 | .IfExp t b o p => o1 (trE sc t) fun x => o1 (trE sc b) fun y => o1 (trE sc o) fun z => some ⟨.ite x.1 y.1 z.1, .ite x.2 y.2 z.2⟩
 | .Dict ks vs p => o1 (trKv sc ks vs) fun x => some ⟨.dict x.1, .dict x.2⟩
 | .List es p => o1 (trEs sc es) fun x => some ⟨.list x.1, .list x.2⟩
 | .Tuple [a, b] k p => o1 (trE sc a) fun x => o1 (trE sc b) fun y => some ⟨.pair x.1 y.1, .pair x.2 y.2⟩
 | .Compare l [op] [r] p => o1 (trE sc l) fun x => trCm1 sc l op p x r (trE sc r)
 | .Compare l [op, op'] [r, t] p => o1 (got (cmOf op)) fun o => o1 (got (cmOf op')) fun o' => o1 (trE sc l) fun x => o1 (trE sc r) fun y => o1 (trE sc t) fun z => some ⟨.cmp2 o.1 o'.1 x.1 y.1 z.1, .cmp2 o.2 o'.2 x.2 y.2 z.2⟩
 | .Call (.Attribute e s ap) as [] p => ck (ap.endLine == p.line) fun h2 => ck (notCall e) fun h1 => o1 (nmP s) fun n => o1 (trE sc e) fun x => o1 (trEs sc as) fun y => some ⟨.meth x.1 n.1 y.1, .meth n.2 h1 h2 x.2 y.2⟩
 | .Call f as [] p => ck (notAttr f) fun h => o1 (trE sc f) fun x => o1 (trEs sc as) fun y => some ⟨.call x.1 y.1, .call h x.2 y.2⟩
 | .Attribute e s p => ck (notCall e) fun h1 => o1 (nmP s) fun n => o1 (trE sc e) fun x => some ⟨.attr x.1 n.1, .attr n.2 h1 x.2⟩
 | .Subscript e i p => o1 (trE sc e) fun x => o1 (trE sc i) fun y => some ⟨.sub x.1 y.1, .sub x.2 y.2⟩
 | .ListComp elt [⟨.Name v vp, it, [], 0⟩] csc p => ck (compSc sc csc v) fun h => o1 (nmP v) fun n => o1 (trE csc elt) fun x => o1 (trIt sc it) fun y => some ⟨.comp x.1 n.1 y.1, .comp n.2 h x.2 y.2⟩
 | _ => none
noncomputable def trIt (sc : Scope) : (e : Expr) → TE sc (.it e)
 | .Call (.Name s q) as [] p => if hs : Nm.str .k_range = s then (o1 (got (sc.names.lookup s)) fun k => if hk : k.1 = .globalImplicit then (o1 (trEs sc as) fun x => some ⟨.range x.1, .itR hs (k.2.trans (congrArg some hk)) x.2⟩) else none) else none
 | .Name s p => o1 (trN sc s p) fun x => match x with | ⟨.loc n, h⟩ => some ⟨.loc n, .itL h⟩ | _ => none
 | _ => none
noncomputable def trEs (sc : Scope) : (l : List Expr) → TE sc (.es l)
 | [] => some ⟨.nil, .nil⟩
 | e :: r => o1 (trE sc e) fun x => o1 (trEs sc r) fun y => some ⟨.cons x.1 y.1, .cons x.2 y.2⟩
noncomputable def trAn (sc : Scope) : (l : List Expr) → TE sc (.an l)
 | [] => none
 | e :: r => o1 (trE sc e) fun x => match r, trAn sc r with
  | [], _ => some ⟨x.1, .an1 x.2⟩
  | _ :: _, y => o1 y fun y => some ⟨.and x.1 y.1, .anC x.2 y.2⟩
noncomputable def trOr (sc : Scope) : (l : List Expr) → TE sc (.or l)
 | [] => none
 | e :: r => o1 (trE sc e) fun x => match r, trOr sc r with
  | [], _ => some ⟨x.1, .or1 x.2⟩
  | _ :: _, y => o1 y fun y => some ⟨.or x.1 y.1, .orC x.2 y.2⟩
noncomputable def trKv (sc : Scope) : (ks : List (Option Expr)) → (vs : List Expr) → TE sc (.kv ks vs)
 | [], [] => some ⟨.nil, .kv0⟩
 | some (.Constant c k p) :: ks, v :: vs => o1 (trC sc k p c) fun x => o1 (trE sc v) fun y => o1 (trKv sc ks vs) fun z => some ⟨.cons (.pair x.1 y.1) z.1, .kvC x.2 y.2 z.2⟩
 | _, _ => none
end
noncomputable def plainIt : X → Bool
 | .range _ => false
 | .reversed _ => false
 | _ => true
inductive SSyn where
 | s (s : Stmt) | ss (l : List Stmt)
inductive TrS : Scope → SSyn → S → Prop
 | ret {sc e x p} (a : Tr sc (.e e) x) : TrS sc (.s (.Return (some e) p)) (.ret x)
 | ret0 {sc p} : TrS sc (.s (.Return none p)) (.ret .cnone)
 | brk {sc p} : TrS sc (.s (.Break p)) .brk
 | expr {sc e x p} (h : isCompX e = false) (a : Tr sc (.e e) x) : TrS sc (.s (.Expr e p)) (.expr x)
 | asgC {sc csc elt v n m s it vp p q r x y} (hn : Nm.str n = s) (hl : lk sc s .local) (hp : (q.line == p.line) = true) (hx : (!(csc.names.any fun q => q.1 == s && (q.2 == .local || q.2 == .cell))) = true) (hm : Nm.str m = v) (hc : compSc sc csc v = true) (a : Tr csc (.e elt) x) (b : Tr sc (.it it) y) : TrS sc (.s (.Assign [.Name s q] (.ListComp elt [⟨.Name v vp, it, [], 0⟩] csc p) r)) (.asg n (.comp x m y))
 | asg {sc n s e x q r} (hn : Nm.str n = s) (hl : lk sc s .local ∨ lk sc s .cell) (hc : isCompX e = false) (a : Tr sc (.e e) x) : TrS sc (.s (.Assign [.Name s q] e r)) (.asg n x)
 | asg2 {sc n m s t e x k p q r tp} (hn : Nm.str n = s) (hm : Nm.str m = t) (h1 : lk sc s .local) (h2 : lk sc t .local) (ht : isTupleX e = false) (hc : isCompX e = false) (a : Tr sc (.e e) x) : TrS sc (.s (.Assign [.Tuple [.Name s p, .Name t q] k tp] e r)) (.asg2 n m x)
 | asgAttr {sc o n s e x y q r} (hn : Nm.str n = s) (a : Tr sc (.e o) x) (b : Tr sc (.e e) y) : TrS sc (.s (.Assign [.Attribute o s q] e r)) (.asgAttr x n y)
 | asgSub {sc o i e x y z q r} (a : Tr sc (.e o) x) (b : Tr sc (.e i) y) (c : Tr sc (.e e) z) : TrS sc (.s (.Assign [.Subscript o i q] e r)) (.asgSub x y z)
 | augLoc {sc n s op o e x q r} (hn : Nm.str n = s) (hl : lk sc s .local) (ho : opOf op = some o) (a : Tr sc (.e e) x) : TrS sc (.s (.AugAssign (.Name s q) op e r)) (.augLoc n o x)
 | augAttr {sc b n s op o e x y q r} (hn : Nm.str n = s) (ho : opOf op = some o) (a : Tr sc (.e b) x) (c : Tr sc (.e e) y) : TrS sc (.s (.AugAssign (.Attribute b s q) op e r)) (.augAttr x n o y)
 | augSub {sc b i op o e x y z q r} (ho : opOf op = some o) (a : Tr sc (.e b) x) (c : Tr sc (.e i) y) (d : Tr sc (.e e) z) : TrS sc (.s (.AugAssign (.Subscript b i q) op e r)) (.augSub x y o z)
 | ifs {sc t b o x y z p} (a : Tr sc (.e t) x) (c : TrS sc (.ss b) y) (d : TrS sc (.ss o) z) : TrS sc (.s (.If t b o p)) (.ifs x y z)
 | whl {sc t b x y p} (a : Tr sc (.e t) x) (c : TrS sc (.ss b) y) : TrS sc (.s (.While t b [] p)) (.whl x y)
 | forR {sc n s q rs rp as cp b p x y} (hn : Nm.str n = s) (hl : lk sc s .local) (hr : Nm.str .k_range = rs) (hg : lk sc rs .globalImplicit) (a : Tr sc (.es as) x) (c : TrS sc (.ss b) y) : TrS sc (.s (.For (.Name s q) (.Call (.Name rs rp) as [] cp) b [] p)) (.forIn n (.range x) y)
 | forV {sc n s q rs rp e cp b p x y} (hn : Nm.str n = s) (hl : lk sc s .local) (hr : Nm.str .k_reversed = rs) (hg : lk sc rs .globalImplicit) (a : Tr sc (.e e) x) (c : TrS sc (.ss b) y) : TrS sc (.s (.For (.Name s q) (.Call (.Name rs rp) [e] [] cp) b [] p)) (.forIn n (.reversed x) y)
 | forE {sc n s q e b p x y} (hn : Nm.str n = s) (hl : lk sc s .local) (h : plainIt x = true) (a : Tr sc (.e e) x) (c : TrS sc (.ss b) y) : TrS sc (.s (.For (.Name s q) e b [] p)) (.forIn n x y)
 | for2 {sc n m s t q r k tp e b p x y} (hn : Nm.str n = s) (hm : Nm.str m = t) (h1 : lk sc s .local) (h2 : lk sc t .local) (a : Tr sc (.e e) x) (c : TrS sc (.ss b) y) : TrS sc (.s (.For (.Tuple [.Name s q, .Name t r] k tp) e b [] p)) (.forIn2 n m x y)
 | nil {sc} : TrS sc (.ss []) .nil
 | seq {sc s r x y} (a : TrS sc (.s s) x) (b : TrS sc (.ss r) y) : TrS sc (.ss (s :: r)) (.seq x y)
noncomputable abbrev TS (sc : Scope) (s : SSyn) := Option {x : S // TrS sc s x}
noncomputable def lkP (sc : Scope) (s : Str) (k : NameKind) : Option (PLift (lk sc s k)) := match got (sc.names.lookup s) with
 | some ⟨k', h⟩ => if e : k' = k then some ⟨h.trans (congrArg some e)⟩ else none
 | none => none
noncomputable def eqP (a b : Str) : Option (PLift (a = b)) := if h : a = b then some ⟨h⟩ else none
theorem not_false {b : Bool} (h : (!b) = true) : b = false := by cases b <;> first | rfl | cases h
noncomputable def trAsN (sc : Scope) (s : Str) (q r : Pos) (n : {n : Nm // Nm.str n = s}) (e : Expr) (hc : isCompX e = false) (x : {x : X // Tr sc (.e e) x}) : (k : NameKind) → lk sc s k → TS sc (.s (.Assign [.Name s q] e r))
 | .local, h => some ⟨.asg n.1 x.1, .asg n.2 (.inl h) hc x.2⟩
 | .cell, h => some ⟨.asg n.1 x.1, .asg n.2 (.inr h) hc x.2⟩
 | _, _ => none
noncomputable def trAs (sc : Scope) (s : Str) (q r : Pos) (n : {n : Nm // Nm.str n = s}) : (e : Expr) → TS sc (.s (.Assign [.Name s q] e r))
 | .ListComp elt [⟨.Name v vp, it, [], 0⟩] csc p => o1 (lkP sc s .local) fun hl => ck (q.line == p.line) fun hp => ck (!(csc.names.any fun q => q.1 == s && (q.2 == .local || q.2 == .cell))) fun hx => ck (compSc sc csc v) fun hc => o1 (nmP v) fun m => o1 (trE csc elt) fun x => o1 (trIt sc it) fun y => some ⟨.asg n.1 (.comp x.1 m.1 y.1), .asgC n.2 hl.down hp hx m.2 hc x.2 y.2⟩
 | e => ck (!isCompX e) fun hc => o1 (got (sc.names.lookup s)) fun k => o1 (trE sc e) fun x => trAsN sc s q r n e (not_false hc) x k.1 k.2
noncomputable def trA2 (sc : Scope) (e : Expr) (r : Pos) (k : Nat) (tp : Pos) : (a b : Expr) → TS sc (.s (.Assign [.Tuple [a, b] k tp] e r))
 | .Name s p, .Name t q => ck (!isTupleX e) fun ht => ck (!isCompX e) fun hc => o1 (nmP s) fun n => o1 (nmP t) fun m => o1 (lkP sc s .local) fun h1 => o1 (lkP sc t .local) fun h2 => o1 (trE sc e) fun x => some ⟨.asg2 n.1 m.1 x.1, .asg2 n.2 m.2 h1.down h2.down (not_false ht) (not_false hc) x.2⟩
 | _, _ => none
noncomputable def trA (sc : Scope) (e : Expr) (r : Pos) : (t : Expr) → TS sc (.s (.Assign [t] e r))
 | .Name s q => o1 (nmP s) fun n => trAs sc s q r n e
 | .Tuple [a, b] k tp => trA2 sc e r k tp a b
 | .Attribute o s q => o1 (nmP s) fun n => o1 (trE sc o) fun x => o1 (trE sc e) fun y => some ⟨.asgAttr x.1 n.1 y.1, .asgAttr n.2 x.2 y.2⟩
 | .Subscript o i q => o1 (trE sc o) fun x => o1 (trE sc i) fun y => o1 (trE sc e) fun z => some ⟨.asgSub x.1 y.1 z.1, .asgSub x.2 y.2 z.2⟩
 | _ => none
noncomputable def trG (sc : Scope) (op : Operator) (e : Expr) (r : Pos) (o : {o : Op // opOf op = some o}) (x : {x : X // Tr sc (.e e) x}) : (t : Expr) → TS sc (.s (.AugAssign t op e r))
 | .Name s q => o1 (nmP s) fun n => o1 (lkP sc s .local) fun h => some ⟨.augLoc n.1 o.1 x.1, .augLoc n.2 h.down o.2 x.2⟩
 | .Attribute b s q => o1 (nmP s) fun n => o1 (trE sc b) fun y => some ⟨.augAttr y.1 n.1 o.1 x.1, .augAttr n.2 o.2 y.2 x.2⟩
 | .Subscript b i q => o1 (trE sc b) fun y => o1 (trE sc i) fun z => some ⟨.augSub y.1 z.1 o.1 x.1, .augSub o.2 y.2 z.2 x.2⟩
 | _ => none
noncomputable abbrev TB (sc : Scope) (b : List Stmt) := {y : S // TrS sc (.ss b) y}
noncomputable def trF0 (sc : Scope) (s : Str) (q p : Pos) (b : List Stmt) (n : {n : Nm // Nm.str n = s}) (hl : lk sc s .local) (y : TB sc b) (e : Expr) : TS sc (.s (.For (.Name s q) e b [] p)) :=
 o1 (trE sc e) fun x => ck (plainIt x.1) fun h => some ⟨.forIn n.1 x.1 y.1, .forE n.2 hl h x.2 y.2⟩
noncomputable def trFv (sc : Scope) (s : Str) (q p : Pos) (b : List Stmt) (n : {n : Nm // Nm.str n = s}) (hl : lk sc s .local) (y : TB sc b) (rs : Str) (rp cp : Pos) : (as : List Expr) → TS sc (.s (.For (.Name s q) (.Call (.Name rs rp) as [] cp) b [] p))
 | [e] => o1 (eqP (Nm.str .k_reversed) rs) fun hr => o1 (lkP sc rs .globalImplicit) fun hg => o1 (trE sc e) fun x => some ⟨.forIn n.1 (.reversed x.1) y.1, .forV n.2 hl hr.down hg.down x.2 y.2⟩
 | _ => none
noncomputable def trF1 (sc : Scope) (s : Str) (q p : Pos) (b : List Stmt) (n : {n : Nm // Nm.str n = s}) (hl : lk sc s .local) (y : TB sc b) : (e : Expr) → TS sc (.s (.For (.Name s q) e b [] p))
 | .Call (.Name rs rp) as [] cp => orE (o1 (eqP (Nm.str .k_range) rs) fun hr => o1 (lkP sc rs .globalImplicit) fun hg => o1 (trEs sc as) fun x => some ⟨.forIn n.1 (.range x.1) y.1, .forR n.2 hl hr.down hg.down x.2 y.2⟩)
   (orE (trFv sc s q p b n hl y rs rp cp as) (trF0 sc s q p b n hl y (.Call (.Name rs rp) as [] cp)))
 | e => trF0 sc s q p b n hl y e
noncomputable def trF2 (sc : Scope) (e : Expr) (k : Nat) (tp p : Pos) (b : List Stmt) (y : TB sc b) : (a c : Expr) → TS sc (.s (.For (.Tuple [a, c] k tp) e b [] p))
 | .Name s q, .Name t r => o1 (nmP s) fun n => o1 (nmP t) fun m => o1 (lkP sc s .local) fun h1 => o1 (lkP sc t .local) fun h2 => o1 (trE sc e) fun x => some ⟨.forIn2 n.1 m.1 x.1 y.1, .for2 n.2 m.2 h1.down h2.down x.2 y.2⟩
 | _, _ => none
noncomputable def trF (sc : Scope) (e : Expr) (p : Pos) (b : List Stmt) (y : TB sc b) : (t : Expr) → TS sc (.s (.For t e b [] p))
 | .Name s q => o1 (nmP s) fun n => o1 (lkP sc s .local) fun hl => trF1 sc s q p b n hl.down y e
 | .Tuple [a, c] k tp => trF2 sc e k tp p b y a c
 | _ => none
mutual
noncomputable def trS (sc : Scope) : (s : Stmt) → TS sc (.s s)
 | .Return (some e) p => o1 (trE sc e) fun x => some ⟨.ret x.1, .ret x.2⟩
 | .Return none p => some ⟨.ret .cnone, .ret0⟩
 | .Break p => some ⟨.brk, .brk⟩
 | .Expr e p => ck (!isCompX e) fun h => o1 (trE sc e) fun x => some ⟨.expr x.1, .expr (not_false h) x.2⟩
 | .Assign [t] e r => trA sc e r t
 | .AugAssign t op e r => o1 (got (opOf op)) fun o => o1 (trE sc e) fun x => trG sc op e r o x t
 | .If t b o p => o1 (trE sc t) fun x => o1 (trSs sc b) fun y => o1 (trSs sc o) fun z => some ⟨.ifs x.1 y.1 z.1, .ifs x.2 y.2 z.2⟩
 | .While t b [] p => o1 (trE sc t) fun x => o1 (trSs sc b) fun y => some ⟨.whl x.1 y.1, .whl x.2 y.2⟩
 | .For t e b [] p => o1 (trSs sc b) fun y => trF sc e p b y t
 | _ => none
noncomputable def trSs (sc : Scope) : (l : List Stmt) → TS sc (.ss l)
 | [] => some ⟨.nil, .nil⟩
 | s :: r => o1 (trS sc s) fun x => o1 (trSs sc r) fun y => some ⟨.seq x.1 y.1, .seq x.2 y.2⟩
end
noncomputable def namesOf : (as : List Arg) → Option {ns : List Nm // as.map (·.arg) = ns.map Nm.str}
 | [] => some ⟨[], rfl⟩
 | a :: r => o1 (nmP a.arg) fun n => o1 (namesOf r) fun l => some ⟨n.1 :: l.1, congr (congrArg List.cons n.2.symm) l.2⟩
noncomputable def constOf : Expr → Option X
 | .Constant c _ _ => o1 (trC ⟨.function, [], false, false, []⟩ 0 ⟨0, 0, 0, 0⟩ c) fun x => some x.1
 | _ => none
noncomputable def constsOf : (ds : List Expr) → Option {xs : List X // xs.length = ds.length}
 | [] => some ⟨[], rfl⟩
 | d :: r => o1 (constOf d) fun x => o1 (constsOf r) fun l => some ⟨x :: l.1, congrArg (· + 1) l.2⟩
structure TrFn (sc : Scope) (p : Arguments) (b : List Stmt) (fn : Fn) : Prop where
 args : ∃ as ds, p = ⟨[], as, none, [], [], none, ds⟩ ∧ as.map (·.arg) = fn.params.map Nm.str ∧ fn.dflts.length = ds.length
 body : TrS sc (.ss b) fn.body
noncomputable def trFn (sc : Scope) (b : List Stmt) : (p : Arguments) → Option {fn : Fn // TrFn sc p b fn}
 | ⟨[], as, none, [], [], none, ds⟩ => o1 (namesOf as) fun ns => o1 (constsOf ds) fun xs => o1 (trSs sc b) fun y => some ⟨⟨ns.1, xs.1, y.1⟩, ⟨as, ds, rfl, ns.2, xs.2⟩, y.2⟩
 | _ => none
theorem of_map {α : Type} {p : α → Prop} {o : Option {x : α // p x}} {a : α} (h : o.map (·.1) = some a) : p a := by
 cases o with
 | none => cases h
 | some x => cases h; exact x.2
end
end Mine
namespace Mine
section
open PySem PySem.W PyProof.Rows PySem.Calls
inductive All2 {α β : Type} (R : α → β → Prop) : List α → List β → Prop
 | nil : All2 R [] []
 | cons {a b l r} : R a b → All2 R l r → All2 R (a :: l) (b :: r)
namespace All2
variable {α β : Type} {R S : α → β → Prop}
theorem mono (h : ∀ a b, R a b → S a b) {l : List α} {r : List β} (x : All2 R l r) : All2 S l r := by
 induction x with
 | nil => exact .nil
 | cons a _ ih => exact .cons (h _ _ a) ih
theorem length {l : List α} {r : List β} (x : All2 R l r) : l.length = r.length := by
 induction x with
 | nil => rfl
 | cons _ _ ih => rw [List.length_cons, List.length_cons, ih]
theorem append {l l' : List α} {r r' : List β} (x : All2 R l r) (y : All2 R l' r') : All2 R (l ++ l') (r ++ r') := by
 induction x with
 | nil => exact y
 | cons a _ ih => exact .cons a ih
theorem get {l : List α} {r : List β} (x : All2 R l r) : ∀ {i : Nat} {b : β}, r[i]? = some b → ∃ a, l[i]? = some a ∧ R a b := by
 induction x with
 | nil => intro i b h; simp at h
 | cons a _ ih =>
  intro i b h
  cases i with
  | zero => simp at h; subst h; exact ⟨_, by simp, a⟩
  | succ i => simp only [List.getElem?_cons_succ] at h ⊢; exact ih h
theorem getl {l : List α} {r : List β} (x : All2 R l r) : ∀ {i : Nat} {a : α}, l[i]? = some a → ∃ b, r[i]? = some b ∧ R a b := by
 induction x with
 | nil => intro i b h; simp at h
 | cons a _ ih =>
  intro i b h
  cases i with
  | zero => simp at h; subst h; exact ⟨_, by simp, a⟩
  | succ i => simp only [List.getElem?_cons_succ] at h ⊢; exact ih h
theorem set {l : List α} {r : List β} (x : All2 R l r) : ∀ (i : Nat) {a : α} {b : β}, R a b → All2 R (l.set i a) (r.set i b) := by
 induction x with
 | nil => intro i a b _; exact .nil
 | cons a t ih =>
  intro i c d h
  cases i with
  | zero => exact .cons h t
  | succ i => exact .cons a (ih i h)
theorem dropLast {l : List α} {r : List β} (x : All2 R l r) : All2 R l.dropLast r.dropLast := by
 induction x with
 | nil => exact .nil
 | cons a t ih =>
  cases t with
  | nil => exact .nil
  | cons b t => exact .cons a ih
theorem reverse {l : List α} {r : List β} (x : All2 R l r) : All2 R l.reverse r.reverse := by
 induction x with
 | nil => exact .nil
 | cons a _ ih => rw [List.reverse_cons, List.reverse_cons]; exact ih.append (.cons a .nil)
theorem drop {l : List α} {r : List β} (x : All2 R l r) : ∀ n, All2 R (l.drop n) (r.drop n) := by
 induction x with
 | nil => intro n; simp; exact .nil
 | cons a t ih => intro n; cases n with
  | zero => exact .cons a t
  | succ n => simpa using ih n
theorem oNil {l : List α} {r : List β} (x : All2 R l r) (e : r = []) {P : List α → Prop} (k : P []) : P l := by
 subst e; cases x; exact k
theorem oOne {l : List α} {r : List β} {b : β} (x : All2 R l r) (e : r = [b]) {P : List α → Prop} (k : ∀ a, R a b → P [a]) : P l := by
 subst e; cases x with
 | cons a t => cases t; exact k _ a
theorem oTwo {l : List α} {r : List β} {b c : β} (x : All2 R l r) (e : r = [b, c]) {P : List α → Prop} (k : ∀ a d, R a b → R d c → P [a, d]) : P l := by
 subst e; cases x with
 | cons a t => cases t with
  | cons b t => cases t; exact k _ _ a b
theorem oThree {l : List α} {r : List β} {b c d : β} (x : All2 R l r) (e : r = [b, c, d]) {P : List α → Prop} (k : ∀ u v w, R u b → R v c → R w d → P [u, v, w]) : P l := by
 subst e; cases x with
 | cons a t => cases t with
  | cons b t => cases t with
   | cons c t => cases t; exact k _ _ _ a b c
end All2
theorem invV {β γ : Type} {a : β} {b : γ} {z : β} {y : γ} (h : some (a, b) = some (z, y)) {P : β → γ → Prop} (k : P a b) : P z y := by cases h; exact k
section
variable {α β γ δ : Type} {u v : V} {a b : Option γ} {q : γ} {P : Prop}
theorem inv2 {o : Option (α × β)} {f : α → β → Option γ} (h : o2 o f = some q) (k : ∀ v H, o = some (v, H) → f v H = some q → P) : P := by
 cases o with
 | none => cases h
 | some p => exact k p.1 p.2 rfl h
theorem inv1 {o : Option α} {f : α → Option γ} (h : o1 o f = some q) (k : ∀ v, o = some v → f v = some q → P) : P := by
 cases o with
 | none => cases h
 | some p => exact k p rfl h
theorem invOpt {o : Option α} {f : α → Option γ} (h : opt o f a = some q) (k : ∀ v, o = some v → f v = some q → P) (k2 : o = none → a = some q → P) : P := by
 cases o with
 | none => exact k2 rfl h
 | some p => exact k p rfl h
theorem invE (h : orE a b = some q) (k : a = some q → P) (k2 : b = some q → P) : P := by
 cases a with
 | none => exact k2 h
 | some p => exact k h
theorem invO {o : Option Bool} (h : iO o a b = some q) (k : o = some true → a = some q → P) (k2 : o = some false → b = some q → P) : P := by
 cases o with
 | none => cases h
 | some c => cases c with
  | false => exact k2 rfl h
  | true => exact k rfl h
theorem truthy_bool {v : V} {b : Bool} (h : truthyV v = some b) : v = .bool b := by
 cases v with
 | bool c => cases h; rfl
 | _ => cases h
theorem invT (h : iT u a b = some q) (k : u = .bool true → a = some q → P) (k2 : u = .bool false → b = some q → P) : P := invO h (fun c h => k (truthy_bool c) h) fun c h => k2 (truthy_bool c) h
theorem invS {f : Nm → Option γ} (h : iS u f = some q) (k : ∀ s, u = .str s → f s = some q → P) : P := by
 cases u with
 | str s => exact k s rfl h
 | _ => cases h
theorem invI {f : Int → Option γ} (h : iI u f = some q) (k : ∀ s, u = .int s → f s = some q → P) : P := by
 cases u with
 | int s => exact k s rfl h
 | _ => cases h
theorem invB {f : Bool → Option γ} (h : iB u f = some q) (k : ∀ s, u = .bool s → f s = some q → P) : P := by
 cases u with
 | bool s => exact k s rfl h
 | _ => cases h
theorem invR {f : Nat → Option γ} (h : iR u f = some q) (k : ∀ s, u = .obj s → f s = some q → P) : P := by
 cases u with
 | obj s => exact k s rfl h
 | _ => cases h
theorem invG {f : Nm → Option γ} (h : iG u f = some q) (k : ∀ s, u = .g s → f s = some q → P) : P := by
 cases u with
 | g s => exact k s rfl h
 | _ => cases h
theorem invP {f : V → V → Option γ} (h : iP u f = some q) (k : ∀ a b, u = .pair a b → f a b = some q → P) : P := by
 cases u with
 | pair a b => exact k a b rfl h
 | _ => cases h
theorem invII {f : Int → Int → Option γ} (h : int2 u v f = some q) (k : ∀ a b, u = .int a → v = .int b → f a b = some q → P) : P := invI h fun a e h => invI h fun b e2 h => k a b e e2 h
theorem invoL {o : O} {f : List V → Option γ} (h : oL o f = some q) (k : ∀ l, o = .list l → f l = some q → P) : P := by
 cases o with
 | list s => exact k s rfl h
 | _ => cases h
theorem invoD {o : O} {f : List (Int × V) → Option γ} (h : oD o f = some q) (k : ∀ l, o = .idict l → f l = some q → P) : P := by
 cases o with
 | idict s => exact k s rfl h
 | _ => cases h
theorem invoS {o : O} {f : List (Nm × V) → Option γ} (h : oS o f = some q) (k : ∀ l, o = .sdict l → f l = some q → P) : P := by
 cases o with
 | sdict s => exact k s rfl h
 | _ => cases h
theorem invoI {o : O} {f : Nm → List (Nm × V) → Option γ} (h : oI o f = some q) (k : ∀ c l, o = .inst c l → f c l = some q → P) : P := by
 cases o with
 | inst c s => exact k c s rfl h
 | _ => cases h
theorem invob {H : MH} {f : O → Option γ} (h : ob H u f = some q) (k : ∀ i o, u = .obj i → H[i]? = some o → f o = some q → P) : P := invR h fun i e h => inv1 h fun o e2 h => k i o e e2 h
theorem invL {H : MH} {f : List V → Option γ} (h : iL H u f = some q) (k : ∀ i l, u = .obj i → H[i]? = some (.list l) → f l = some q → P) : P := invob h fun i o e e2 h => invoL h fun l e3 h => k i l e (e2.trans (congrArg some e3)) h
theorem inv_nil {l : List V} (h : nilL l a = some q) (k : l = [] → a = some q → P) : P := by
 cases l with
 | nil => exact k rfl h
 | cons _ _ => cases h
theorem inv_one {l : List V} {f : V → Option γ} (h : one l f = some q) (k : ∀ a, l = [a] → f a = some q → P) : P := by
 unfold one at h
 split at h
 ·exact k _ rfl h
 ·cases h
theorem inv_two {l : List V} {f : V → V → Option γ} (h : two l f = some q) (k : ∀ a b, l = [a, b] → f a b = some q → P) : P := by
 unfold two at h
 split at h
 ·exact k _ _ rfl h
 ·cases h
theorem inv_three {l : List V} {f : V → V → V → Option γ} (h : three l f = some q) (k : ∀ a b c, l = [a, b, c] → f a b c = some q → P) : P := by
 unfold three at h
 split at h
 ·exact k _ _ _ rfl h
 ·cases h
theorem invi2 {H : MH} {f : V → V → Option γ} (h : i2 H u f = some q) (k : ∀ a b, (u = .pair a b ∨ ∃ i, u = .obj i ∧ H[i]? = some (.list [a, b])) → f a b = some q → P) : P :=
 invE h (fun h => invP h fun a b e h => k a b (.inl e) h) fun h => invL h fun i l e e2 h => inv_two h fun a b e3 h => k a b (.inr ⟨i, e, e2.trans (by rw [e3])⟩) h
theorem invC {c : Prop} [Decidable c] (h : (if c then a else none) = some q) (k : c → a = some q → P) : P := by
 by_cases x : c
 ·exact k x ((if_pos x).symm.trans h)
 ·rw [if_neg x] at h; cases h
theorem invX {c : Prop} [Decidable c] {a b q : γ} (h : (if c then a else b) = q) (k : c → a = q → P) (k2 : ¬ c → b = q → P) : P := by
 by_cases x : c
 ·exact k x ((if_pos x).symm.trans h)
 ·exact k2 x ((if_neg x).symm.trans h)
theorem inv_sq {f : Loc → MH → Res} {o : Res} {q : Fl × Loc × MH} (h : sq o f = some q) (k : ∀ ρ H, o = some (.next, ρ, H) → f ρ H = some q → P) (k2 : o = some q → q.1 ≠ .next → P) : P := by
 unfold sq at h
 split at h
 ·exact k _ _ rfl h
 ·rename_i n
  exact k2 h fun e => n q.2.1 q.2.2 (by rw [h, ← e])
theorem inv_lp {f : Loc → MH → Res} {o : Res} {fl : Fl} {ρ' : Loc} {H' : MH} (h : lp o f = some (fl, ρ', H')) (k : ∀ ρ H, o = some (.next, ρ, H) → f ρ H = some (fl, ρ', H') → P) (k2 : o = some (.brk, ρ', H') → fl = .next → P) (k3 : ∀ v, o = some (.ret v, ρ', H') → fl = .ret v → P) : P := by
 unfold lp at h
 split at h
 ·exact k _ _ rfl h
 ·cases h; exact k2 rfl rfl
 ·rename_i n1 n2
  cases fl with
  | next => exact (n1 _ _ h).elim
  | brk => exact (n2 _ _ h).elim
  | ret v => exact k3 v h rfl
theorem inv_en {o : Res} {v : V} {H' : MH} (h : en o = some (v, H')) (k : ∀ ρ, o = some (.ret v, ρ, H') → P) (k2 : ∀ ρ, o = some (.next, ρ, H') → v = .none → P) : P := by
 unfold en at h
 split at h
 ·cases h; exact k _ rfl
 ·cases h; exact k2 _ rfl rfl
 ·cases h
end
structure Lc where
 a : Addr
 d : Addr
 e : Int
noncomputable def biVal (n : Nm) : Option Value :=
 if n = .k_max then some (.builtin "max") else if n = .k_min then some (.builtin "min") else if n = .k_abs then some (.builtin "abs") else if n = .k_len then some (.builtin "len")
 else if n = .k_dict then some (.type "dict") else if n = .k_list then some (.type "list") else none
noncomputable def ownerL : List (Nm × Nm × Nm) := [(.k_Types_new, .k_Types, .k_new), (.k_Ranges_init, .k_Ranges, .k_init), (.k_Node_init, .k_Node, .k_init), (.k_ProcTree_init, .k_ProcTree, .k_init),
 (.k_Type_init, .k_Type, .k_init), (.k_Obj_init, .k_Obj, .k_init), (.k_Types_init, .k_Types, .k_init)]
noncomputable def owner (n : Nm) : Option (Nm × Nm) := get n ownerL
noncomputable def clsTabL : List (Nm × Nm) := [(.k_Ranges, .k_Ranges_init), (.k_Node, .k_Node_init), (.k_ProcTree, .k_ProcTree_init), (.k_Type, .k_Type_init), (.k_Obj, .k_Obj_init), (.k_Types, .k_Types_init)]
noncomputable def clsTab (n : Nm) : Option Nm := get n clsTabL
noncomputable def gval (K : Frag) (n : Nm) : Option Value := if isBi n then biVal n else match owner n with
 | none => (nsIn K mainGlobals n.str).join
 | some (c, m) => match (nsIn K mainGlobals c.str).join with | some C => (findIn K C m.str).join | none => none
structure Gd where
 prog : Program
 w : World
 K : Frag
 hb : Heap
noncomputable abbrev Gd.m (ω : Gd) : Model := model ω.prog ω.w
inductive VR (K : Frag) (φ : List Lc) (h : Heap) : Value → V → Prop
 | none : VR K φ h .none .none
 | bool (b) : VR K φ h (.bool b) (.bool b)
 | int (i t) : VR K φ h (.int i t) (.int i)
 | str (n : Nm) (t) : VR K φ h (.str n.str t) (.str n)
 | pair {x u v a b} : IsTup h x #[u, v] → VR K φ h u a → VR K φ h v b → VR K φ h (.ref x) (.pair a b)
 | obj {i : Nat} {l : Lc} : φ[i]? = some l → VR K φ h (.ref l.a) (.obj i)
 | g {n v} : gval K n = some v → VR K φ h v (.g n)
noncomputable def VI (K : Frag) (φ : List Lc) (h : Heap) (v : Value) : V → Prop
 | .none => v = .none
 | .bool b => v = .bool b
 | .int i => ∃ t, v = .int i t
 | .str n => ∃ t, v = .str n.str t
 | .pair a b => ∃ x u w, v = .ref x ∧ IsTup h x #[u, w] ∧ VR K φ h u a ∧ VR K φ h w b
 | .obj i => ∃ l, φ[i]? = some l ∧ v = .ref l.a
 | .g n => gval K n = some v
section
variable {K : Frag} {φ : List Lc} {h : Heap} {v : Value} {z : V} {P : Value → Prop}
theorem VR.inv (x : VR K φ h v z) : VI K φ h v z := by
 cases x with
 | none => rfl
 | bool b => rfl
 | int i t => exact ⟨t, rfl⟩
 | str n t => exact ⟨t, rfl⟩
 | pair a b c => exact ⟨_, _, _, rfl, a, b, c⟩
 | obj e => exact ⟨_, e, rfl⟩
 | g e => exact e
theorem VR.oInt {i : Int} (x : VR K φ h v z) (e : z = .int i) (k : ∀ t, P (.int i t)) : P v := by
 subst e; obtain ⟨t, rfl⟩ := x.inv; exact k t
theorem VR.oStr {n : Nm} (x : VR K φ h v z) (e : z = .str n) (k : ∀ t, P (.str n.str t)) : P v := by
 subst e; obtain ⟨t, rfl⟩ := x.inv; exact k t
theorem VR.oBool {b : Bool} (x : VR K φ h v z) (e : z = .bool b) (k : P (.bool b)) : P v := by
 subst e; have := x.inv; rw [show v = .bool b from this]; exact k
theorem VR.oObj {i : Nat} (x : VR K φ h v z) (e : z = .obj i) (k : ∀ l, φ[i]? = some l → P (.ref l.a)) : P v := by
 subst e; obtain ⟨l, e, rfl⟩ := x.inv; exact k l e
theorem VR.oPair {a b : V} (x : VR K φ h v z) (e : z = .pair a b) (k : ∀ x u w, IsTup h x #[u, w] → VR K φ h u a → VR K φ h w b → P (.ref x)) : P v := by
 subst e; obtain ⟨y, u, w, rfl, h1, h2, h3⟩ := x.inv; exact k y u w h1 h2 h3
theorem VR.oOb {i : Nat} {l : Lc} (e : z = .obj i) (h1 : φ[i]? = some l) : VR K φ h (.ref l.a) z := by
 subst e; exact .obj h1
theorem VR.oG {n : Nm} (x : VR K φ h v z) (e : z = .g n) : gval K n = some v := by
 subst e; exact x.inv
end
noncomputable def FE (ω : Gd) (φ : List Lc) (h : Heap) (e : DictEntry) (f : Nm × V) : Prop := (∃ t, e.key = .str f.1.str t) ∧ VR ω.K φ h e.val f.2
noncomputable def KE (R : Value → V → Prop) (p : Int × Value) (q : Int × V) : Prop := p.1 = q.1 ∧ R p.2 q.2
noncomputable def SE (R : Value → V → Prop) (p : PySem.Str × Value) (q : Nm × V) : Prop := p.1 = q.1.str ∧ R p.2 q.2
noncomputable def RepO (ω : Gd) (φ : List Lc) (h : Heap) (l : Lc) : O → Prop
 | .inst c fs => ∃ C es n, gval ω.K c = some (.ref C) ∧ (clsTab c).isSome = true ∧ h.get? l.a = some (instObj C l.d) ∧ h.get? l.d = some (dictOf es n) ∧ All2 (FE ω φ h) es fs ∧ (∀ p ∈ fs, okAttr p.1 = true) ∧ fs.length ≤ 200
 | .list xs => l.d = l.a ∧ ∃ n its, h.get? l.a = some (listOf its n) ∧ All2 (VR ω.K φ h) its.toList xs ∧ xs.length ≤ 1000000
 | .idict kvs => l.d = l.a ∧ ∃ kv' ep, h.DictAt (intKind ω.prog ω.w) l.a kv' ep ∧ (ep : Int) = l.e + kvs.length ∧ All2 (KE (VR ω.K φ h)) kv' kvs ∧ kvs.length ≤ 1000000
 | .sdict kvs => l.d = l.a ∧ ∃ kv', h.DictOf (PySem.strKind ω.prog ω.w) l.a kv' ∧ All2 (SE (VR ω.K φ h)) kv' kvs ∧ kvs.length ≤ 1000000
structure St (ω : Gd) (φ : List Lc) (H : MH) (h : Heap) : Prop where
 len : φ.length = H.length
 rep : ∀ (i : Nat) l o, φ[i]? = some l → H[i]? = some o → RepO ω φ h l o
 base : ∀ a o, ω.hb.get? a = some o → h.get? a = some o
 size : ω.hb.objs.size ≤ h.objs.size
 lo : ∀ l ∈ φ, ω.hb.objs.size ≤ l.d ∧ ω.hb.objs.size ≤ l.a
 ndd : (φ.map (·.d)).Nodup
 nda : (φ.map (·.a)).Nodup
structure Step (φ : List Lc) (X : List Addr) (h : Heap) (φ' : List Lc) (h' : Heap) : Prop where
 pre : φ <+: φ'
 keep : ∀ a o, h.get? a = some o → a ∉ φ.map (·.d) → a ∉ X → h'.get? a = some o
 size : h.objs.size ≤ h'.objs.size
 fresh : ∀ l ∈ φ', l ∈ φ ∨ (h.objs.size ≤ l.d ∧ h.objs.size ≤ l.a)
theorem Step.refl {φ : List Lc} {X : List Addr} {h : Heap} : Step φ X h φ h := ⟨List.prefix_refl _, fun _ _ e _ _ => e, Nat.le_refl _, fun _ m => .inl m⟩
theorem Step.trans {φ φ' φ'' : List Lc} {X : List Addr} {h h' h'' : Heap} (x : Step φ X h φ' h') (y : Step φ' X h' φ'' h'') : Step φ X h φ'' h'' := by
 refine ⟨x.pre.trans y.pre, fun a o e n m => y.keep a o (x.keep a o e n m) ?_ m, Nat.le_trans x.size y.size, fun l m => ?_⟩
 ·intro q
  refine hide fun Ψ kΨ => ?_
  obtain ⟨l, ml, rfl⟩ := List.mem_map.mp q
  refine kΨ ?_
  rcases x.fresh l ml with z | z
  ·exact n (List.mem_map_of_mem z)
  ·exact absurd (Nat.lt_of_lt_of_le (Heap.lt_size e) z.1) (Nat.lt_irrefl _)
 ·rcases y.fresh l m with z | z
  ·exact x.fresh l z
  ·exact .inr ⟨Nat.le_trans x.size z.1, Nat.le_trans x.size z.2⟩
theorem Step.wide {φ φ' : List Lc} {X : List Addr} {h h' : Heap} (x : Step φ [] h φ' h') : Step φ X h φ' h' := ⟨x.pre, fun a o e n _ => x.keep a o e n (by simp), x.size, x.fresh⟩
section
variable {ω : Gd} {φ φ' : List Lc} {H H' : MH} {h h' : Heap}
theorem St.lc (S : St ω φ H h) {i : Nat} {o : O} (e : H[i]? = some o) : ∃ l, φ[i]? = some l ∧ RepO ω φ h l o := by
 have hi : i < φ.length := by rw [S.len]; exact (List.getElem?_eq_some_iff.mp e).1
 exact ⟨φ[i], List.getElem?_eq_getElem hi, S.rep i _ o (List.getElem?_eq_getElem hi) e⟩
theorem St.ob (S : St ω φ H h) {i : Nat} {l : Lc} (e : φ[i]? = some l) : ∃ o, H[i]? = some o ∧ RepO ω φ h l o := by
 have hi : i < H.length := by rw [← S.len]; exact (List.getElem?_eq_some_iff.mp e).1
 exact ⟨H[i], List.getElem?_eq_getElem hi, S.rep i l _ e (List.getElem?_eq_getElem hi)⟩
theorem RepO.dAt {l : Lc} {o : O} (r : RepO ω φ h l o) : ∃ x, h.get? l.d = some x ∧ ((∃ es n, x.data = .dict es n) ∨ (x.cls = .type "list" ∧ ∃ its n, x.data = .seq its n)) := by
 cases o with
 | inst c fs => obtain ⟨C, es, n, _, _, _, hd, _⟩ := r; exact ⟨_, hd, .inl ⟨_, _, rfl⟩⟩
 | list xs => obtain ⟨e, n, its, hl, _⟩ := r; rw [e]; exact ⟨_, hl, .inr ⟨rfl, _, _, rfl⟩⟩
 | idict kvs => obtain ⟨e, kv', ep, ⟨o, es, ho, _, hd, _⟩, _⟩ := r; rw [e]; exact ⟨_, ho, .inl ⟨_, _, hd⟩⟩
 | sdict kvs => obtain ⟨e, kv', ⟨o, es, ep, ho, _, hd, _⟩, _⟩ := r; rw [e]; exact ⟨_, ho, .inl ⟨_, _, hd⟩⟩
theorem RepO.aAt {l : Lc} {o : O} (r : RepO ω φ h l o) : ∃ x, h.get? l.a = some x := by
 cases o with
 | inst c fs => obtain ⟨C, es, n, _, _, hl, hd, _⟩ := r; exact ⟨_, hl⟩
 | list xs => obtain ⟨e, n, its, hl, _⟩ := r; exact ⟨_, hl⟩
 | idict kvs => obtain ⟨e, kv', ep, ⟨o, es, ho, _⟩, _⟩ := r; exact ⟨_, ho⟩
 | sdict kvs => obtain ⟨e, kv', ⟨o, es, ep, ho, _⟩, _⟩ := r; exact ⟨_, ho⟩
theorem St.tup_not (S : St ω φ H h) {x : Addr} {o : Obj} (e : h.get? x = some o) (hd : (∀ es n, o.data ≠ .dict es n)) (hc : o.cls ≠ .type "list") : x ∉ φ.map (·.d) := by
 intro q
 refine hide fun Ψ kΨ => ?_
 obtain ⟨l, ml, rfl⟩ := List.mem_map.mp q
 obtain ⟨i, hi⟩ := List.getElem?_of_mem ml
 obtain ⟨ob, _, r⟩ := S.ob hi
 obtain ⟨x, hx, z⟩ := r.dAt
 refine kΨ ?_
 rw [e] at hx
 cases hx
 rcases z with ⟨es, n, z⟩ | ⟨z, _⟩
 ·exact hd _ _ z
 ·exact hc z
theorem IsTup.notD (S : St ω φ H h) {x : Addr} {its : Array Value} (t : IsTup h x its) : x ∉ φ.map (·.d) := by
 refine hide fun Ψ kΨ => ?_
 obtain ⟨o, ho, hc, n, hd⟩ := t
 refine kΨ ?_
 exact S.tup_not ho (fun es n e => by rw [hd] at e; cases e) (by rw [hc]; decide)
theorem St.lt (S : St ω φ H h) {l : Lc} (m : l ∈ φ) : l.d < h.objs.size ∧ l.a < h.objs.size := by
 refine hide fun Ψ kΨ => ?_
 obtain ⟨i, hi⟩ := List.getElem?_of_mem m
 obtain ⟨ob, _, r⟩ := S.ob hi
 obtain ⟨x, hx, _⟩ := r.dAt
 obtain ⟨y, hy⟩ := r.aAt
 refine kΨ ?_
 exact ⟨Heap.lt_size hx, Heap.lt_size hy⟩
theorem pre_get {i : Nat} {l : Lc} (p : φ <+: φ') (e : φ[i]? = some l) : φ'[i]? = some l := by
 obtain ⟨t, rfl⟩ := p
 rw [List.getElem?_append_left (List.getElem?_eq_some_iff.mp e).1]; exact e
theorem VR.mono {v : Value} {x : V} (r : VR ω.K φ h v x) (p : φ <+: φ') (t : ∀ a its, IsTup h a its → IsTup h' a its) : VR ω.K φ' h' v x := by
 induction r with
 | none => exact .none
 | bool => exact .bool _
 | int => exact .int _ _
 | str => exact .str _ _
 | pair a _ _ ih1 ih2 => exact .pair (t _ _ a) ih1 ih2
 | obj e => exact .obj (pre_get p e)
 | g e => exact .g e
theorem Step.tup {X : List Addr} (S : St ω φ H h) (s : Step φ X h φ' h') (hX : ∀ x ∈ X, ∀ its, ¬ IsTup h x its) {a : Addr} {its : Array Value} (t : IsTup h a its) : IsTup h' a its := by
 have n1 := IsTup.notD S t
 have n2 : a ∉ X := fun m => hX a m its t
 refine hide fun Ψ kΨ => ?_
 obtain ⟨o, ho, r⟩ := t
 refine kΨ ?_
 exact ⟨o, s.keep a o ho n1 n2, r⟩
theorem VR.step {X : List Addr} {v : Value} {x : V} (r : VR ω.K φ h v x) (S : St ω φ H h) (s : Step φ X h φ' h') (hX : ∀ x ∈ X, ∀ its, ¬ IsTup h x its) : VR ω.K φ' h' v x :=
 r.mono s.pre fun _ _ t => Step.tup S s hX t
theorem VR.all {X : List Addr} {vs : List Value} {xs : List V} (r : All2 (VR ω.K φ h) vs xs) (S : St ω φ H h) (s : Step φ X h φ' h') (hX : ∀ x ∈ X, ∀ its, ¬ IsTup h x its) : All2 (VR ω.K φ' h') vs xs :=
 r.mono fun _ _ r => r.step S s hX
theorem RepO.keep {l : Lc} {o : O} (r : RepO ω φ h l o) (p : φ <+: φ') (t : ∀ a its, IsTup h a its → IsTup h' a its)
  (ka : ∀ x, h.get? l.a = some x → h'.get? l.a = some x) (kd : ∀ x, h.get? l.d = some x → h'.get? l.d = some x) : RepO ω φ' h' l o := by
 cases o with
 | inst c fs =>
  refine hide fun Ψ kΨ => ?_
  obtain ⟨C, es, n, e1, e2, e3, e4, e5, e6, e7⟩ := r
  refine kΨ ?_
  exact ⟨C, es, n, e1, e2, ka _ e3, kd _ e4, e5.mono fun _ _ z => ⟨z.1, z.2.mono p t⟩, e6, e7⟩
 | list xs =>
  refine hide fun Ψ kΨ => ?_
  obtain ⟨e, n, its, e1, e2, e3⟩ := r
  refine kΨ ?_
  exact ⟨e, n, its, ka _ e1, e2.mono fun _ _ z => z.mono p t, e3⟩
 | idict kvs =>
  refine hide fun Ψ kΨ => ?_
  obtain ⟨e, kv', ep, ⟨o, es, ho, r⟩, e1, e2, e3⟩ := r
  refine kΨ ?_
  exact ⟨e, kv', ep, ⟨o, es, ka _ ho, r⟩, e1, e2.mono fun _ _ z => ⟨z.1, z.2.mono p t⟩, e3⟩
 | sdict kvs =>
  refine hide fun Ψ kΨ => ?_
  obtain ⟨e, kv', ⟨o, es, ep, ho, r⟩, e2, e3⟩ := r
  refine kΨ ?_
  exact ⟨e, kv', ⟨o, es, ep, ka _ ho, r⟩, e2.mono fun _ _ z => ⟨z.1, z.2.mono p t⟩, e3⟩
theorem St.a_notD (S : St ω φ H h) {i : Nat} {l : Lc} (e : φ[i]? = some l) (n : l.a ≠ l.d) : l.a ∉ φ.map (·.d) := by
 refine hide fun Ψ kΨ => ?_
 obtain ⟨o, ho, r⟩ := S.ob e
 refine kΨ ?_
 cases o with
 | inst c fs =>
  refine hide fun Ψ kΨ => ?_
  obtain ⟨C, es, n', e1, e2, e3, _⟩ := r
  refine kΨ ?_
  refine S.tup_not e3 (fun es n z => by cases z) (by intro z; cases z)
 | list xs => exact absurd r.1.symm n
 | idict kvs => exact absurd r.1.symm n
 | sdict kvs => exact absurd r.1.symm n
theorem St.keepAll (S : St ω φ H h) {X : List Addr} (k : ∀ a o, h.get? a = some o → a ∉ X → h'.get? a = some o) (hX : ∀ x ∈ X, (∀ its, ¬ IsTup h x its) ∧ (∀ l ∈ φ, x ≠ l.a ∧ x ≠ l.d) ∧ ω.hb.get? x = none) (hs : h.objs.size ≤ h'.objs.size) : St ω φ H h' := by
 have t : ∀ a its, IsTup h a its → IsTup h' a its := fun a its ⟨o, ho, r⟩ => ⟨o, k _ _ ho fun m => (hX _ m).1 its ⟨o, ho, r⟩, r⟩
 refine ⟨S.len, fun i l o e1 e2 => (S.rep i l o e1 e2).keep (List.prefix_refl _) t (fun x e => k _ _ e fun m => ?_) (fun x e => k _ _ e fun m => ?_), fun a o e => k _ _ (S.base a o e) fun m => ?_, Nat.le_trans S.size hs, S.lo, S.ndd, S.nda⟩
 ·exact ((hX _ m).2.1 l (List.mem_of_getElem? e1)).1 rfl
 ·exact ((hX _ m).2.1 l (List.mem_of_getElem? e1)).2 rfl
 ·rw [(hX _ m).2.2] at e; cases e
theorem St.grow (S : St ω φ H h) (k : ∀ a o, h.get? a = some o → h'.get? a = some o) (hs : h.objs.size ≤ h'.objs.size) : St ω φ H h' := S.keepAll (X := []) (fun a o e _ => k a o e) (fun x m => by simp at m) hs
theorem Step.grow (k : ∀ a o, h.get? a = some o → h'.get? a = some o) (hs : h.objs.size ≤ h'.objs.size) : Step φ [] h φ h' := ⟨List.prefix_refl _, fun a o e _ _ => k a o e, hs, fun _ m => .inl m⟩
theorem St.alloc (S : St ω φ H h) (k : ∀ a o, h.get? a = some o → h'.get? a = some o) (hs : h.objs.size ≤ h'.objs.size) {l : Lc} {o : O} (r : RepO ω (φ ++ [l]) h' l o) (fa : h.objs.size ≤ l.a) (fd : h.objs.size ≤ l.d) :
  St ω (φ ++ [l]) (H ++ [o]) h' ∧ Step φ [] h (φ ++ [l]) h' := by
 have G := S.grow k hs
 refine ⟨⟨by simp [S.len], fun i l' o' e1 e2 => ?_, G.base, G.size, fun l' m => ?_, ?_, ?_⟩, ⟨List.prefix_append _ _, fun a o e _ _ => k a o e, hs, fun l' m => ?_⟩⟩
 ·by_cases hi : i < φ.length
  ·rw [List.getElem?_append_left hi] at e1
   rw [List.getElem?_append_left (S.len ▸ hi)] at e2
   exact (G.rep i l' o' e1 e2).keep (List.prefix_append _ _) (fun _ _ t => t) (fun _ e => e) fun _ e => e
  ·have hi : i = φ.length := by
    have := (List.getElem?_eq_some_iff.mp e1).1
    simp at this; omega
   subst hi
   rw [List.getElem?_append_right (Nat.le_refl _)] at e1
   rw [S.len, List.getElem?_append_right (Nat.le_refl _)] at e2
   simp at e1 e2
   subst e1 e2
   exact r
 ·rcases List.mem_append.mp m with m | m
  ·exact S.lo l' m
  ·rw [List.mem_singleton.mp m]; exact ⟨Nat.le_trans S.size fd, Nat.le_trans S.size fa⟩
 ·rw [List.map_append, List.nodup_append]
  refine ⟨S.ndd, by simp, fun a ha b hb' => ?_⟩
  simp at hb'
  obtain ⟨l', m, rfl⟩ := List.mem_map.mp ha
  have := (S.lt m).1
  show l'.d ≠ b
  rw [hb']; exact Nat.ne_of_lt (Nat.lt_of_lt_of_le this fd)
 ·rw [List.map_append, List.nodup_append]
  refine ⟨S.nda, by simp, fun a ha b hb' => ?_⟩
  simp at hb'
  obtain ⟨l', m, rfl⟩ := List.mem_map.mp ha
  have := (S.lt m).2
  show l'.a ≠ b
  rw [hb']; exact Nat.ne_of_lt (Nat.lt_of_lt_of_le this fa)
 ·rcases List.mem_append.mp m with m | m
  ·exact .inl m
  ·rw [List.mem_singleton.mp m]; exact .inr ⟨fd, fa⟩
theorem St.turn (S : St ω φ H h) {i : Nat} {l : Lc} (e : φ[i]? = some l) (hs : Heap.SameBut l.d h h') {o : O} (r : (∀ v x, VR ω.K φ h v x → VR ω.K φ h' v x) → RepO ω φ h' l o) : St ω φ (H.set i o) h' ∧ Step φ [] h φ h' := by
 have k : ∀ a o, h.get? a = some o → a ≠ l.d → h'.get? a = some o := fun a o e n => (hs.2 a n).trans e
 have ml := List.mem_of_getElem? e
 have t : ∀ a its, IsTup h a its → IsTup h' a its := fun a its T => by
  have n := IsTup.notD S T
  obtain ⟨o, ho, r⟩ := T
  exact ⟨o, k _ _ ho fun q => n (q ▸ List.mem_map_of_mem ml), r⟩
 refine ⟨⟨by simp [S.len], fun j l' o' e1 e2 => ?_, fun a o ea => k a o (S.base a o ea) fun q => ?_, by rw [hs.1]; exact S.size, S.lo, S.ndd, S.nda⟩, ⟨List.prefix_refl _, fun a o ea n _ => k a o ea fun q => n (q ▸ List.mem_map_of_mem ml), by rw [hs.1]; exact Nat.le_refl _, fun _ m => .inl m⟩⟩
 ·by_cases hj : i = j
  ·subst hj
   rw [e] at e1
   cases e1
   have hi : i < H.length := by rw [← S.len]; exact (List.getElem?_eq_some_iff.mp e).1
   rw [List.getElem?_set_self hi] at e2
   cases e2
   exact r fun v x z => z.mono (List.prefix_refl _) t
  ·rw [List.getElem?_set_ne hj] at e2
   have hd : l'.d ≠ l.d := by
    intro q
    have hi := (List.getElem?_eq_some_iff.mp e).1
    have hj' := (List.getElem?_eq_some_iff.mp e1).1
    have a := (List.getElem?_eq_some_iff.mp e).2
    have b := (List.getElem?_eq_some_iff.mp e1).2
    have z : i = j := (List.getElem_inj (xs := φ.map Lc.d) (h₀ := by simpa using hi) (h₁ := by simpa using hj') S.ndd).mp (by
     rw [List.getElem_map, List.getElem_map, a, b, q])
    exact hj z
   refine (S.rep j l' o' e1 e2).keep (List.prefix_refl _) t (fun x ex => k _ _ ex fun q => ?_) fun x ex => k _ _ ex hd
   by_cases n : l'.a = l'.d
   ·exact hd (n ▸ q)
   ·exact S.a_notD e1 n (q ▸ List.mem_map_of_mem ml)
 ·have := (S.lo l ml).1
  rw [← q] at this
  exact absurd (Heap.lt_size ea) (Nat.not_lt.mpr this)
theorem St.new (S : St ω φ H h) (l : Lc) : VR ω.K (φ ++ [l]) h' (.ref l.a) (.obj H.length) := by
 refine .obj ?_
 rw [← S.len, List.getElem?_append_right (Nat.le_refl _), Nat.sub_self]; rfl
end
end
end Mine
namespace Mine
section
open PySem PySem.W PyProof.Rows PySem.Calls
noncomputable def own (env : Env) : List Addr := env.locals :: env.cells.map (·.2)
structure Hy (ω : Gd) : Prop where
 kin : ω.K.In ω.hb
 nol : ω.hb.NoLimit
 glob : ∃ mg, ω.hb.Ns mainGlobals mg
 blt : ∃ mb, ω.hb.Ns builtinsNs mb ∧ ∀ x : Str, x ≠ "__name__" → mb x = bootBuiltins x
structure FrOk (ω : Gd) (env : Env) (φ : List Lc) (ρ : Loc) (h : Heap) : Prop where
 kind : env.scope.kind = .function
 glob : env.globals = mainGlobals
 blt : env.builtins = builtinsNs
 ns : ∃ m, h.Ns env.locals m ∧ ∀ x V, get x ρ = some V → env.kindOf x.str = some .local → ∃ v, m x.str = some v ∧ VR ω.K φ h v V
 cel : ∀ x c, env.cells.lookup x = some c → ∃ v, h.IsCell c v
 celv : ∀ x V, get x ρ = some V → (env.kindOf x.str = some .cell ∨ env.kindOf x.str = some .free) → ∃ c v, env.cells.lookup x.str = some c ∧ h.IsCell c (some v) ∧ VR ω.K φ h v V
 celm : ∀ p ∈ env.cells, ∃ v, h.IsCell p.2 v
 nd : (env.cells.map (·.2)).Nodup
 off : ∀ a ∈ own env, a ∉ φ.map (·.d) ∧ a ∉ φ.map (·.a) ∧ ω.hb.objs.size ≤ a
section
variable {ω : Gd} {φ φ' : List Lc} {H H' : MH} {h h' : Heap} {env : Env} {ρ : Loc}
theorem FrOk.own_lt (F : FrOk ω env φ ρ h) : ∀ a ∈ own env, a < h.objs.size := by
 intro a m
 rcases List.mem_cons.mp m with rfl | m
 ·obtain ⟨_, n, _⟩ := F.ns; exact n.lt
 ·obtain ⟨p, hp, rfl⟩ := List.mem_map.mp m
  obtain ⟨v, c⟩ := F.celm p hp; exact c.lt
theorem FrOk.notTup (F : FrOk ω env φ ρ h) : ∀ x ∈ own env, ∀ its, ¬ IsTup h x its := by
 rintro a m its ⟨o, ho, _, n, hd⟩
 rcases List.mem_cons.mp m with rfl | m
 ·obtain ⟨_, ⟨o', es, ep, ho', hd', _⟩, _⟩ := F.ns
  rw [ho] at ho'; cases ho'; rw [hd] at hd'; cases hd'
 ·obtain ⟨p, hp, rfl⟩ := List.mem_map.mp m
  obtain ⟨v, o', ho', hd'⟩ := F.celm p hp
  rw [ho] at ho'; cases ho'; rw [hd] at hd'; cases hd'
theorem FrOk.step (F : FrOk ω env φ ρ h) (S : St ω φ H h) (s : Step φ [] h φ' h') : FrOk ω env φ' ρ h' := by
 have k : ∀ a ∈ own env, ∀ o, h.get? a = some o → h'.get? a = some o := fun a m o e => s.keep a o e (F.off a m).1 (by simp)
 have kc : ∀ p ∈ env.cells, ∀ v, h.IsCell p.2 v → h'.IsCell p.2 v := fun p m v ⟨o, ho, hd⟩ => ⟨o, k _ (List.mem_cons_of_mem _ (List.mem_map_of_mem m)) o ho, hd⟩
 have t := fun v x (r : VR ω.K φ h v x) => r.step S s (fun x m => by simp at m)
 obtain ⟨m, n, l⟩ := F.ns
 refine ⟨F.kind, F.glob, F.blt, ⟨m, ?_, fun x V e ek => ?_⟩, fun x c e => ?_, fun x V e ek => ?_, fun p hp => ?_, F.nd, fun a m => ⟨fun q => ?_, fun q => ?_, (F.off a m).2.2⟩⟩
 ·obtain ⟨o, es, ep, ho, r⟩ := n
  exact ⟨o, es, ep, k _ (.head _) o ho, r⟩
 ·obtain ⟨v, e1, e2⟩ := l x V e ek
  exact ⟨v, e1, t _ _ e2⟩
 ·have hp : (x, c) ∈ env.cells := by
   obtain ⟨l1, l2, h1, h2⟩ := List.lookup_eq_some_iff.mp e
   rw [h1]; simp
  obtain ⟨v, hv⟩ := F.cel x c e
  exact ⟨v, kc _ hp v hv⟩
 ·obtain ⟨c, v, e1, e2, e3⟩ := F.celv x V e ek
  have hp : (x.str, c) ∈ env.cells := by
   obtain ⟨l1, l2, h1, h2⟩ := List.lookup_eq_some_iff.mp e1
   rw [h1]; simp
  exact ⟨c, v, e1, kc _ hp _ e2, t _ _ e3⟩
 ·obtain ⟨v, hv⟩ := F.celm p hp
  exact ⟨v, kc p hp v hv⟩
 ·obtain ⟨l, ml, rfl⟩ := List.mem_map.mp q
  rcases s.fresh l ml with z | z
  ·exact (F.off _ m).1 (List.mem_map_of_mem z)
  ·exact absurd (F.own_lt _ m) (Nat.not_lt.mpr z.1)
 ·obtain ⟨l, ml, rfl⟩ := List.mem_map.mp q
  rcases s.fresh l ml with z | z
  ·exact (F.off _ m).2.1 (List.mem_map_of_mem z)
  ·exact absurd (F.own_lt _ m) (Nat.not_lt.mpr z.2)
end
structure Room (A : Around) (r : Nat) : Prop where
 han : A.handled = none
 dep : A.depth + 2 * r + 4 ≤ 900
 uni : A.units + 8 * r + 20 ≤ 9000
section
variable (ω : Gd)
noncomputable def EOk (r : Nat) (env : Env) (ρ : Loc) (H : MH) (t : Sem Value) (z : V) (H' : MH) : Prop :=
 ∀ (A : Around) (E : Value → Shared → Prop) (s : Shared) (φ : List Lc) (Q : Value → Shared → Prop), Room A r → St ω φ H s.heap → FrOk ω env φ ρ s.heap →
  (∀ v h' tk φ', Step φ (own env) s.heap φ' h' → St ω φ' H' h' → FrOk ω env φ' ρ h' → VR ω.K φ' h' v z → Q v { s with heap := h', toks := tk }) → wpAny ω.m A t Q E s
noncomputable def LOk (r : Nat) (env : Env) (ρ : Loc) (H : MH) (t : Sem (List Value)) (z : List V) (H' : MH) : Prop :=
 ∀ (A : Around) (E : Value → Shared → Prop) (s : Shared) (φ : List Lc) (Q : List Value → Shared → Prop), Room A r → St ω φ H s.heap → FrOk ω env φ ρ s.heap →
  (∀ v h' tk φ', Step φ (own env) s.heap φ' h' → St ω φ' H' h' → FrOk ω env φ' ρ h' → All2 (VR ω.K φ' h') v z → Q v { s with heap := h', toks := tk }) → wpAny ω.m A t Q E s
noncomputable def TOk (r : Nat) (env : Env) (ρ : Loc) (H : MH) (t : Sem Bool) (z : Bool) (H' : MH) : Prop :=
 ∀ (A : Around) (E : Value → Shared → Prop) (s : Shared) (φ : List Lc) (Q : Bool → Shared → Prop), Room A r → St ω φ H s.heap → FrOk ω env φ ρ s.heap →
  (∀ h' tk φ', Step φ (own env) s.heap φ' h' → St ω φ' H' h' → FrOk ω env φ' ρ h' → Q z { s with heap := h', toks := tk }) → wpAny ω.m A t Q E s
structure COk (r : Nat) (cf : CF) : Prop where
 keep : ∀ f vs H z H', cf f vs H = some (z, H') → ∀ (φ : List Lc) (h : Heap) (fv : Value), VR ω.K φ h fv f → keepIn ω.K fv = true ∨ (∃ i, fv = .builtin i) ∨ ∃ i, fv = .type i
 run : ∀ f vs H z H', cf f vs H = some (z, H') →
  ∀ (A : Around) (E : Value → Shared → Prop) (s : Shared) (φ : List Lc) (fv : Value) (avs : List Value) (Q : Value → Shared → Prop), Room A r → St ω φ H s.heap → VR ω.K φ s.heap fv f → All2 (VR ω.K φ s.heap) avs vs →
  (∀ v h' tk φ', Step φ [] s.heap φ' h' → St ω φ' H' h' → VR ω.K φ' h' v z → Q v { s with heap := h', toks := tk }) → wpAny ω.m A (call fv avs) Q E s
end
section
variable {ω : Gd} {r : Nat} {env : Env} {ρ : Loc} {H H₁ H₂ H' : MH} {z z₁ : V}
theorem EOk.seq {t : Sem Value} {E : Value → Shared → Prop} {A : Around} {s : Shared} {φ : List Lc} {Q : Value → Shared → Prop} (x : EOk ω r env ρ H t z₁ H₁) (R : Room A r) (S : St ω φ H s.heap) (F : FrOk ω env φ ρ s.heap)
  (k : ∀ v h' tk φ', Step φ (own env) s.heap φ' h' → St ω φ' H₁ h' → FrOk ω env φ' ρ h' → VR ω.K φ' h' v z₁ → Q v { s with heap := h', toks := tk }) : wpAny ω.m A t Q E s := x A E s φ Q R S F k
theorem EOk.same {v : Value} {t : Sem Value} (hv : ∀ φ h, VR ω.K φ h v z) (ht : ∀ A E (s : Shared) Q, (∀ tk, Q v { s with toks := tk }) → wpAny ω.m A t Q E s) : EOk ω r env ρ H t z H :=
 fun A E s φ Q _ S F k => ht A E s Q fun tk => k v s.heap tk φ .refl S F (hv _ _)
theorem E_none {k pos} : EOk ω r env ρ H (eval (.Constant .none k pos) env) .none H := EOk.same (v := .none) (fun _ _ => .none) fun _ _ s _ q => wpAny_pure (q s.toks)
theorem E_bool {b k pos} : EOk ω r env ρ H (eval (.Constant (.bool b) k pos) env) (.bool b) H := EOk.same (v := .bool b) (fun _ _ => .bool b) fun _ _ s _ q => wpAny_pure (q s.toks)
theorem E_int {i k pos} : EOk ω r env ρ H (eval (.Constant (.int i) k pos) env) (.int i) H := fun A E s φ Q _ S F k => wpAny_Constant_int (k _ s.heap _ φ .refl S F (.int _ _))
theorem E_str {n : Nm} {k pos} : EOk ω r env ρ H (eval (.Constant (.str n.str) k pos) env) (.str n) H := fun A E s φ Q _ S F k => by
 show wpAny _ _ (mkText n.str) _ _ _
 exact wpAny_mkText (k _ s.heap _ φ .refl S F (.str _ _))
theorem nm_plain (n : Nm) : (n.str == ("__debug__" : Str)) = false ∧ (n.str == ("__classdict__" : Str)) = false ∧ (n.str ≠ ("__name__" : Str)) :=
 of_decide_eq_true (Nm.all (p := fun n => decide ((n.str == ("__debug__" : Str)) = false ∧ (n.str == ("__classdict__" : Str)) = false ∧ (n.str ≠ ("__name__" : Str)))) (by decide +kernel) n)
theorem E_loc {x : Nm} {pos} (hk : env.kindOf x.str = some .local ∨ env.kindOf x.str = some .cell ∨ env.kindOf x.str = some .free) (e : get x ρ = some z) : EOk ω r env ρ H (eval (.Name x.str pos) env) z H := fun A E s φ Q _ S F k => by
 refine wpAny_Name ?_ (nm_plain x).1
 rcases hk with hk | hk | hk
 ·refine hide fun Ψ kΨ => ?_
  obtain ⟨m, n, l⟩ := F.ns
  obtain ⟨v, e1, e2⟩ := l x z e hk
  refine kΨ ?_
  exact wpAny_loadName_local F.kind hk n e1 (k v s.heap s.toks φ .refl S F e2)
 ·refine hide fun Ψ kΨ => ?_
  obtain ⟨c, v, e1, e2, e3⟩ := F.celv x z e (.inl hk)
  refine kΨ ?_
  exact wpAny_loadName_cell F.kind hk e1 e2 (k v s.heap s.toks φ .refl S F e3)
 ·refine hide fun Ψ kΨ => ?_
  obtain ⟨c, v, e1, e2, e3⟩ := F.celv x z e (.inr hk)
  refine kΨ ?_
  exact wpAny_loadName_free F.kind hk e1 e2 (k v s.heap s.toks φ .refl S F e3) (nm_plain x).2.1
end
end
end Mine
namespace Mine
section
open PySem PySem.W PyProof.Rows PySem.Calls
section
theorem setGen_heap (s : Shared) (g : Nat) (x : GenState) : (s.setGen g x).heap = s.heap := rfl
theorem runs_size {M : Model} {Γ : Ctx} {p : Pos} {t : Sem Fin} {fs : List Frame} {s : Shared} {e : End} {s' : Shared} (h : Runs M Γ p t fs s e s') : s.heap.objs.size ≤ s'.heap.objs.size := by
 induction h <;> (try simp only [setGen_heap, Heap.size_push, Heap.size_after_update] at *) <;> omega
theorem wakes_size {M : Model} {Γ : Ctx} {p : Pos} {g : Nat} {r : Resume} {s : Shared} {x : GenResult} {s' : Shared} (h : Wakes M Γ p g r s x s') : s.heap.objs.size ≤ s'.heap.objs.size := by
 unfold Wakes at h
 split at h
 ·exact h.elim
 ·split at h
  ·obtain ⟨e₁, s₁, h1, _, _, rfl⟩ := h; have z := runs_size h1; exact z
  ·rw [h.2]; exact Nat.le_refl _
  ·rw [h.2]; exact Nat.le_refl _
 ·obtain ⟨e₁, s₁, h1, _, _, rfl⟩ := h; have z := runs_size h1; exact z
 ·rw [h.2]; exact Nat.le_refl _
 ·rw [h.2]; exact Nat.le_refl _
theorem wp_size {α : Type} {M : Model} {Γ : Ctx} {E : Value → Pos → Shared → Prop} {n : Nat} (t : Sem α) : ∀ {Q : α → Pos → Shared → Prop} {p : Pos} {s : Shared}, n ≤ s.heap.objs.size → Sem.wp M Γ t Q E p s → Sem.wp M Γ t (fun a p' s' => n ≤ s'.heap.objs.size ∧ Q a p' s') E p s := by
 induction t with
 | pure a => intro Q p s hn h; exact ⟨hn, h⟩
 | raise e => intro Q p s hn h; exact h
 | unsupported w => intro Q p s hn h; exact h
 | finish e => intro Q p s hn h; exact h
 | rule tag k ih => intro Q p s hn h; rw [Sem.wp_rule] at h ⊢; exact ih _ hn h
 | «at» q k ih => intro Q p s hn h; rw [Sem.wp_at] at h ⊢; exact ih _ hn h
 | load a part k ih => intro Q p s hn h; rw [Sem.wp_load] at h ⊢; obtain ⟨o, e, h⟩ := h; exact ⟨o, e, ih _ hn h⟩
 | update a part f k ih => intro Q p s hn h; rw [Sem.wp_update] at h ⊢; exact ⟨h.1, ih _ (by simpa using hn) h.2⟩
 | alloc o k ih => intro Q p s hn h; rw [Sem.wp_alloc] at h ⊢; exact ih _ (by simp; omega) h
 | loadIfAlive a k ih => intro Q p s hn h; rw [Sem.wp_loadIfAlive] at h ⊢; exact ih _ hn h
 | point l k ih => intro Q p s hn h; rw [Sem.wp_point] at h ⊢; exact ih _ hn h
 | register a k ih => intro Q p s hn h; rw [Sem.wp_register] at h; exact h.elim
 | fresh k ih => intro Q p s hn h; rw [Sem.wp_fresh] at h ⊢; exact ih _ hn h
 | ask k ih => intro Q p s hn h; rw [Sem.wp_ask] at h ⊢; exact ih _ hn h
 | choose src m k ih => intro Q p s hn h; rw [Sem.wp_choose] at h ⊢; exact ⟨h.1, ih _ hn h.2⟩
 | os q l k ih => intro Q p s hn h; rw [Sem.wp_os] at h ⊢; exact ih _ hn h
 | call c hd g l k ih =>
  intro Q p s hn h
  rw [Sem.wp_call] at h ⊢
  refine hide fun Ψ kΨ => ?_
  obtain ⟨r, s', hr, h⟩ := h
  refine kΨ ?_
  exact ⟨r, s', hr, ih _ (Nat.le_trans hn (runs_size hr)) h⟩
 | handled o k ih => intro Q p s hn h; rw [Sem.wp_handled] at h ⊢; exact ih _ hn h
 | newGen c k ih => intro Q p s hn h; rw [Sem.wp_newGen] at h ⊢; exact ih _ hn h
 | genState g k ih => intro Q p s hn h; rw [Sem.wp_genState] at h ⊢; obtain ⟨st, e, h⟩ := h; exact ⟨st, e, ih _ hn h⟩
 | resume g r l k ih =>
  intro Q p s hn h
  rw [Sem.wp_resume] at h ⊢
  refine hide fun Ψ kΨ => ?_
  obtain ⟨r, s', hr, h⟩ := h
  refine kΨ ?_
  exact ⟨r, s', hr, ih _ (Nat.le_trans hn (wakes_size hr)) h⟩
 | yield v g l k ih => intro Q p s hn h; rw [Sem.wp_yield] at h; exact h.elim
 | stack k ih => intro Q p s hn h; rw [Sem.wp_stack] at h ⊢; exact ih _ hn h
 | fork c k ih => intro Q p s hn h; rw [Sem.wp_fork] at h; exact h.elim
 | thread k ih => intro Q p s hn h; rw [Sem.wp_thread] at h ⊢; exact ih _ hn h
 | await a tk tm l k ih => intro Q p s hn h; rw [Sem.wp_await] at h; exact h.elim
theorem wpAny_sz {α : Type} {M : Model} {A : Around} {t : Sem α} {Q : α → Shared → Prop} {E : Value → Shared → Prop} {s : Shared}
  (h : wpAny M A t (fun a s' => s.heap.objs.size ≤ s'.heap.objs.size → Q a s') E s) : wpAny M A t Q E s := fun Γ p hΓ =>
 Sem.wp_mono M Γ t (fun _ _ _ z => z.2 z.1) (fun _ _ _ z => z) p s (wp_size t (Nat.le_refl _) (h Γ p hΓ))
end
end
end Mine
namespace Mine
section
open PySem PySem.W PyProof.Rows PySem.Calls
theorem nm_find (n : Nm) : nmTree.find (Str.code n.str) = some n :=
 of_decide_eq_true (Nm.all (p := fun n => decide (nmTree.find (Str.code n.str) = some n)) (by decide +kernel) n)
theorem Nm.inj {a b : Nm} (h : a.str = b.str) : a = b := by
 have e := nm_find a
 rw [h, nm_find b] at e
 exact (Option.some.inj e).symm
structure ClsOk (K : Frag) (c : Nm) (C : Addr) : Prop where
 gv : gval K c = some (.ref C)
 makes : makesIn K C = true
 pg : plainGet K C "" = true
 hd : hasDictIn K C = true
 sa : findIn K (.ref C) "__setattr__" = some (some (.builtin "object.__setattr__"))
 po : plainOver K C = true
 at_ : ∀ n, okAttr n = true → ∃ attr, findIn K (.ref C) n.str = some attr ∧ noGet K attr = true ∧ takerIn K C n.str = some none
 keep : keepIn K (.ref C) = true
 eq : findIn K (.ref C) "__eq__" = some (some (.builtin "object.__eq__"))
 mo : mroIn K C (.type "object") = some true
structure MethOk (K : Frag) (c n f : Nm) : Prop where
 ok : ∀ C, gval K c = some (.ref C) → ∃ a, findIn K (.ref C) n.str = some (some (.ref a)) ∧ isFn K (.ref a) = true ∧ keepIn K (.ref a) = true ∧ gval K f = some (.ref a)
structure Tab (K : Frag) : Prop where
 meth : ∀ c n f, insMeth c n = some f → MethOk K c n f
 cls : ∀ c, (clsTab c).isSome = true → ∃ C, ClsOk K c C
 hand : ∀ n v, gval K n = some v → handedIn v = true
 nn : ∀ n, gval K n ≠ some .none
 gl : ∀ n ∈ globNames, (isBi n = true ∧ nsIn K mainGlobals n.str = some none ∧ ∃ v, bootBuiltins n.str = some v ∧ biVal n = some v) ∨
  (isBi n = false ∧ ∃ v, nsIn K mainGlobals n.str = some (some v) ∧ ((∃ i t, gv n = .int i ∧ v = .int i t) ∨ (gv n = .g n ∧ gval K n = some v)))
section
variable {ω : Gd} {φ φ' : List Lc} {H H' : MH} {h h' : Heap} {env : Env} {ρ : Loc} {r : Nat} {A : Around} {E : Value → Shared → Prop} {s : Shared} {z z₁ z₂ : V}
theorem FrOk.fr (F : FrOk ω env φ ρ h) (S : St ω φ H h) : ∃ m, Fr ω.hb env.locals h m := by
 refine hide fun Ψ kΨ => ?_
 obtain ⟨m, n, _⟩ := F.ns
 refine kΨ ?_
 exact ⟨m, n, S.base, (F.off _ (.head _)).2.2⟩
theorem St.kin (S : St ω φ H h) (Y : Hy ω) : ω.K.In h := fun a o e => S.base _ _ (Y.kin a o e)
theorem bi_ne {n a : Nm} (h : isBi n = true) (ha : isBi a = false) : n ≠ a := by rintro rfl; rw [h] at ha; cases ha
theorem E_glob (Y : Hy ω) (T : Tab ω.K) {n : Nm} {pos : Pos} (hk : env.kindOf n.str = some .globalImplicit) (hn : n ∈ globNames) : EOk ω r env ρ H (eval (.Name n.str pos) env) (gv n) H := fun A E s φ Q _ S F k => by
 refine hide fun Ψ kΨ => ?_
 obtain ⟨mg, G⟩ := Y.glob
 obtain ⟨mb, B, hB⟩ := Y.blt
 refine kΨ ?_
 refine Name_function_global F.kind hk ?_ (nm_plain n).1
 rcases T.gl n hn with ⟨e1, e2, v, e3, e4⟩ | ⟨e1, v, e2, e3⟩
 ·refine loadGlobal_builtin (mg := mg) (mb := mb) (v := v) (by rw [F.glob]; exact G.keeps S.base) (mg_none_of Y.kin G e2) (by rw [F.blt]; exact B.keeps S.base) (by rw [hB _ (nm_plain n).2.2, e3]) ?_
  have : gv n = .g n := by unfold gv; rw [if_neg (bi_ne e1 rfl), if_neg (bi_ne e1 rfl), if_neg (bi_ne e1 rfl), if_neg (bi_ne e1 rfl)]
  exact k v s.heap s.toks φ .refl S F (by rw [this]; exact .g (by unfold gval; rw [e1]; exact e4))
 ·refine loadGlobal_global (mg := mg) (v := v) (by rw [F.glob]; exact G.keeps S.base) (mg_of Y.kin G e2) ?_
  refine k v s.heap s.toks φ .refl S F ?_
  rcases e3 with ⟨i, t, e3, rfl⟩ | ⟨e3, e4⟩
  ·rw [e3]; exact .int _ _
  ·rw [e3]; exact .g e4
theorem isStr_str (a b : Nm) (t : Tok) : (Value.str a.str t).isStr b.str = decide (a = b) := by
 by_cases e : a = b
 ·subst e; simp [Value.isStr]
 ·have : a.str ≠ b.str := fun q => e (Nm.inj q)
  simp [Value.isStr, e, this]
theorem getL_of {es : List DictEntry} {fs : List (Nm × V)} {n : Nm} (x : All2 (FE ω φ h) es fs) (e : get n fs = some z) : ∃ v, getL n.str es = some (some v) ∧ VR ω.K φ h v z := by
 induction x with
 | nil => cases e
 | cons a t ih =>
  rename_i en f es' fs'
  refine hide fun Ψ kΨ => ?_
  obtain ⟨⟨tk, ek⟩, ev⟩ := a
  obtain ⟨f1, f2⟩ := f
  refine kΨ ?_
  unfold get at e
  unfold getL
  rw [List.find?_cons, ek, isStr_str]
  by_cases q : f1 = n
  ·rw [if_pos q] at e
   cases e
   simp only [q, decide_true]
   exact ⟨_, rfl, ev⟩
  ·rw [if_neg q] at e
   simp only [q, decide_false]
   refine hide fun Ψ kΨ => ?_
   obtain ⟨v, e1, e2⟩ := ih e
   refine kΨ ?_
   refine ⟨v, ?_, e2⟩
   unfold getL at e1
   have hr : (en :: es').any (·.refKey) = es'.any (·.refKey) := by rw [List.any_cons]; simp [DictEntry.refKey, ek]
   rw [hr]; exact e1
theorem getL_isSome {es : List DictEntry} {fs : List (Nm × V)} (n : Str) (x : All2 (FE ω φ h) es fs) : (getL n es).isSome = true := by
 have hr : es.any (·.refKey) = false := by
  induction x with
  | nil => rfl
  | cons a _ ih =>
   refine hide fun Ψ kΨ => ?_
   obtain ⟨⟨tk, ek⟩, ev⟩ := a
   refine kΨ ?_
   rw [List.any_cons, ih]; simp [DictEntry.refKey, ek]
 unfold getL
 split
 ·rfl
 ·rw [hr]; rfl
theorem putL_of {es : List DictEntry} {fs : List (Nm × V)} {n : Nm} {hsh : Int} {t : Tok} {v : Value} (x : All2 (FE ω φ h) es fs) (ev : VR ω.K φ h v z) : All2 (FE ω φ h) (putL n.str hsh (.str n.str t) v es) (put n z fs) := by
 induction x with
 | nil => exact .cons ⟨⟨t, rfl⟩, ev⟩ .nil
 | cons a t' ih =>
  rename_i en f es' fs'
  obtain ⟨⟨tk, ek⟩, ev'⟩ := a
  obtain ⟨f1, f2⟩ := f
  unfold putL put
  rw [ek, isStr_str]
  by_cases q : f1 = n
  ·rw [if_pos (by simpa using q), if_pos q]
   exact .cons ⟨⟨tk, rfl⟩, ev⟩ t'
  ·rw [if_neg (by simpa using q), if_neg q]
   exact .cons ⟨⟨tk, ek⟩, ev'⟩ ih
theorem put_length {α β : Type} [DecidableEq α] (k : α) (v : β) : ∀ l : List (α × β), (put k v l).length ≤ l.length + 1
 | [] => by simp [put]
 | (a, b) :: r => by
  unfold put
  have := put_length k v r
  split <;> simp <;> omega
theorem put_mem {β : Type} (n : Nm) (v : β) : ∀ l : List (Nm × β), ∀ p ∈ put n v l, p.1 = n ∨ ∃ q ∈ l, q.1 = p.1
 | [], p, m => by simp [put] at m; subst m; exact .inl rfl
 | (a, b) :: r, p, m => by
  unfold put at m
  split at m
  ·rename_i q
   rcases List.mem_cons.mp m with rfl | m
   ·exact .inl q
   ·exact .inr ⟨p, .tail _ m, rfl⟩
  ·rcases List.mem_cons.mp m with rfl | m
   ·exact .inr ⟨_, .head _, rfl⟩
   ·rcases put_mem n v r p m with z | ⟨q, hq, e⟩
    ·exact .inl z
    ·exact .inr ⟨q, .tail _ hq, e⟩
theorem get_mem {β : Type} {n : Nm} {v : β} : ∀ {l : List (Nm × β)}, get n l = some v → ∃ p ∈ l, p.1 = n
 | (a, b) :: r, e => by
  unfold get at e
  split at e
  ·exact ⟨_, .head _, by assumption⟩
  ·obtain ⟨p, m, e⟩ := get_mem e
   exact ⟨p, .tail _ m, e⟩
theorem handedIn_of {v : Value} (T : Tab ω.K) (x : VR ω.K φ h v z) : handedIn v = true := by
 cases x with
 | g e => exact T.hand _ _ e
 | _ => rfl
theorem St.ins (S : St ω φ H h) (T : Tab ω.K) {i : Nat} {l : Lc} {c : Nm} {fs : List (Nm × V)} (hl : φ[i]? = some l) (ho : H[i]? = some (.inst c fs)) {P : Prop} (k : ∀ C es n, ClsOk ω.K c C → h.get? l.a = some (instObj C l.d) → h.get? l.d = some (dictOf es n) → All2 (FE ω φ h) es fs → (∀ p ∈ fs, okAttr p.1 = true) → fs.length ≤ 200 → P) : P := by
 obtain ⟨l', hl', C, es, cnt, e1, e2, e3, e4, e5, e6, e7⟩ := S.lc ho
 rw [hl] at hl'
 cases hl'
 obtain ⟨C', G⟩ := T.cls c e2
 have := G.gv
 rw [e1] at this
 cases this
 exact k C es cnt G e3 e4 e5 e6 e7
theorem St.insC (S : St ω φ H h) {i : Nat} {c : Nm} {fs : List (Nm × V)} (ho : H[i]? = some (.inst c fs)) : (clsTab c).isSome = true := by
 refine hide fun Ψ kΨ => ?_
 obtain ⟨l', hl', C, es, cnt, e1, e2, _⟩ := S.lc ho
 refine kΨ ?_
 exact e2
theorem attr_ok (Y : Hy ω) (T : Tab ω.K) {n : Nm} {v : Value} {Q : Value → Shared → Prop} {expr : Bool} (S : St ω φ H s.heap) (F : FrOk ω env φ ρ s.heap) (x : VR ω.K φ s.heap v z₁) (e : attrOf H z₁ n = some z)
  (k : ∀ u, VR ω.K φ s.heap u z → Q u { s with toks := s.toks + 1 }) : wpAny ω.m A (getAttr v n.str expr) Q E s := by
 refine invob e fun i o e1 ho e => invoI e fun c fs e3 e => ?_
 apply x.oObj e1
 refine fun l hl => S.ins T hl (e3 ▸ ho) fun C es cnt G h1 h2 h3 h4 h5 => ?_
 refine hide fun Ψ kΨ => ?_
 obtain ⟨u, g1, g2⟩ := getL_of h3 e
 obtain ⟨p, pm, pe⟩ := get_mem e
 obtain ⟨attr, a1, a2, a3⟩ := G.at_ n (pe ▸ h4 p pm)
 obtain ⟨m, Fr⟩ := F.fr S
 refine kΨ ?_
 exact get_own Fr Y.kin ⟨h1, rfl, rfl, h2⟩ G.pg G.hd a1 a2 g1 (handedIn_of T g2) (k u g2)
noncomputable def allN (hb : Heap) (L : Addr) (h : Heap) : List (Addr × Obj) := (List.range h.objs.size).filterMap fun a => if a = L then none else match hb.get? a with
 | some _ => none
 | none => (h.get? a).map fun o => (a, o)
theorem allN_mem {L : Addr} {p : Addr × Obj} : p ∈ allN ω.hb L h ↔ p.1 ≠ L ∧ ω.hb.get? p.1 = none ∧ h.get? p.1 = some p.2 := by
 unfold allN
 rw [List.mem_filterMap]
 constructor
 ·rintro ⟨a, ha, e⟩
  split at e
  ·cases e
  ·rename_i n
   split at e
   ·cases e
   ·rename_i n2
    obtain ⟨o, ho, rfl⟩ := Option.map_eq_some_iff.mp e
    exact ⟨n, n2, ho⟩
 ·rintro ⟨n, n2, e⟩
  refine ⟨p.1, List.mem_range.mpr (Heap.lt_size e), ?_⟩
  rw [if_neg n, n2, e]; rfl
theorem allN_news {L : Addr} : News ω.hb L h (allN ω.hb L h) := fun p hp => by
 obtain ⟨a, b, c⟩ := allN_mem.mp hp
 exact ⟨c, a, b⟩
theorem allN_nodup {L : Addr} : ((allN ω.hb L h).map (·.1)).Nodup := by
 unfold allN
 rw [List.map_filterMap]
 have : ∀ l : List Nat, l.Nodup → (l.filterMap fun a => Option.map (·.1) (if a = L then none else match ω.hb.get? a with
  | some _ => none
  | none => (h.get? a).map fun o => ((a, o) : Addr × Obj))).Nodup ∧ ∀ x ∈ (l.filterMap fun a => Option.map (·.1) (if a = L then none else match ω.hb.get? a with
  | some _ => none
  | none => (h.get? a).map fun o => ((a, o) : Addr × Obj))), x ∈ l := by
  intro l
  induction l with
  | nil => intro _; exact ⟨by simp, by simp⟩
  | cons a l ih =>
   intro hn
   obtain ⟨hn1, hn2⟩ := List.nodup_cons.mp hn
   obtain ⟨i1, i2⟩ := ih hn2
   rw [List.filterMap_cons]
   split
   ·exact ⟨i1, fun x m => .tail _ (i2 x m)⟩
   ·rename_i b q
    have hb' : b = a := by
     obtain ⟨y, hy, rfl⟩ := Option.map_eq_some_iff.mp q
     split at hy
     ·cases hy
     ·split at hy
      ·cases hy
      ·obtain ⟨o, ho, rfl⟩ := Option.map_eq_some_iff.mp hy
       rfl
    subst hb'
    refine ⟨List.nodup_cons.mpr ⟨fun m => hn1 (i2 _ m), i1⟩, fun x m => ?_⟩
    rcases List.mem_cons.mp m with rfl | m
    ·exact .head _
    ·exact .tail _ (i2 _ m)
 exact (this _ List.nodup_range).1
theorem map_off {d : Addr} {o' : Obj} : ∀ {r : List (Addr × Obj)}, (∀ q ∈ r, q.1 ≠ d) → r.map (fun p => if p.1 = d then (d, o') else p) = r
 | [], _ => rfl
 | q :: r, h => by rw [List.map_cons, if_neg (h q (.head _)), map_off fun x m => h x (.tail _ m)]
theorem upd_of {d : Addr} {o o' : Obj} : ∀ {l : List (Addr × Obj)}, (l.map (·.1)).Nodup → (d, o) ∈ l → Upd d o o' l (l.map fun p => if p.1 = d then (d, o') else p)
 | [], _, m => nomatch m
 | (p1, p2) :: r, hn, m => by
  obtain ⟨n1, n2⟩ := List.nodup_cons.mp hn
  by_cases e : p1 = d
  ·subst e
   have off : ∀ q ∈ r, q.1 ≠ p1 := fun q hq e2 => n1 (by show p1 ∈ _; rw [← e2]; exact List.mem_map_of_mem (f := fun x : Addr × Obj => x.1) hq)
   have hp : p2 = o := by
    rcases List.mem_cons.mp m with z | z
    ·cases z; rfl
    ·exact absurd rfl (off _ z)
   subst hp
   rw [List.map_cons, if_pos rfl, map_off off]
   exact Upd.head off
  ·rw [List.map_cons, if_neg e]
   refine Upd.tail e (upd_of n2 ?_)
   rcases List.mem_cons.mp m with z | z
   ·cases z; exact absurd rfl e
   ·exact z
theorem all_kept {L : Addr} {m : Str → Option Value} {news' : List (Addr × Obj)} {d : Addr} (S : St ω φ H h) (F : Fr ω.hb L h' m) (N : News ω.hb L h' news') (k : ∀ p ∈ allN ω.hb L h, p.1 ≠ d → p ∈ news') :
  ∀ a o, h.get? a = some o → a ≠ d → a ≠ L → h'.get? a = some o := fun a o e n1 n2 => by
 cases q : ω.hb.get? a with
 | some o' =>
  have := S.base _ _ q
  rw [e] at this
  cases this
  exact F.keep _ _ q
 | none => exact (N _ (k (a, o) (allN_mem.mpr ⟨n2, q, e⟩) n1)).1
end
end
end Mine
namespace Mine
section
open PySem PySem.W PyProof.Rows PySem.Calls
section
variable {ω : Gd} {φ φ' : List Lc} {H H' : MH} {h h' : Heap} {env : Env} {ρ : Loc} {r : Nat} {A : Around} {E : Value → Shared → Prop} {s : Shared} {z z₁ z₂ : V}
noncomputable def OffX (hb : Heap) (φ : List Lc) (h : Heap) (X : List Addr) : Prop := ∀ x ∈ X, (∀ its, ¬ IsTup h x its) ∧ x ∉ φ.map (·.a) ∧ x ∉ φ.map (·.d) ∧ hb.get? x = none
theorem OffX.nil : OffX ω.hb φ h [] := fun _ m => nomatch m
theorem FrOk.offX (F : FrOk ω env φ ρ h) : OffX ω.hb φ h [env.locals] := fun x m => by
 rw [List.mem_singleton.mp m]
 have o := F.off _ (.head _)
 refine ⟨F.notTup _ (.head _), o.2.1, o.1, ?_⟩
 cases q : ω.hb.get? env.locals with
 | none => rfl
 | some _ => exact absurd (Heap.lt_size q) (Nat.not_lt.mpr o.2.2)
theorem turnX {X : List Addr} (S : St ω φ H h) (hX : OffX ω.hb φ h X) {i : Nat} {l : Lc} (e : φ[i]? = some l) (k : ∀ a o, h.get? a = some o → a ≠ l.d → a ∉ X → h'.get? a = some o) (hs : h.objs.size ≤ h'.objs.size) {o : O}
  (r : (∀ v x, VR ω.K φ h v x → VR ω.K φ h' v x) → (l.a ≠ l.d → ∀ o, h.get? l.a = some o → h'.get? l.a = some o) → RepO ω φ h' l o) : St ω φ (H.set i o) h' ∧ Step φ X h φ h' := by
 have ml := List.mem_of_getElem? e
 have t : ∀ a its, IsTup h a its → IsTup h' a its := fun a its T => by
  have n := IsTup.notD S T
  have T' := T
  refine hide fun Ψ kΨ => ?_
  obtain ⟨o, ho, r⟩ := T
  refine kΨ ?_
  exact ⟨o, k _ _ ho (fun q => n (q ▸ List.mem_map_of_mem ml)) (fun m => (hX _ m).1 _ T'), r⟩
 refine ⟨⟨by simp [S.len], fun j l' o' e1 e2 => ?_, fun a o ea => k a o (S.base a o ea) (fun q => ?_) (fun m => ?_), Nat.le_trans S.size hs, S.lo, S.ndd, S.nda⟩, ⟨List.prefix_refl _, fun a o ea n m => k a o ea (fun q => n (q ▸ List.mem_map_of_mem ml)) m, hs, fun _ m => .inl m⟩⟩
 ·by_cases hj : i = j
  ·subst hj
   rw [e] at e1
   cases e1
   have hi : i < H.length := by rw [← S.len]; exact (List.getElem?_eq_some_iff.mp e).1
   rw [List.getElem?_set_self hi] at e2
   cases e2
   exact r (fun v x z => z.mono (List.prefix_refl _) t) fun n o ho => k _ _ ho n fun m => (hX _ m).2.1 (List.mem_map_of_mem ml)
  ·rw [List.getElem?_set_ne hj] at e2
   have hd : l'.d ≠ l.d := by
    intro q
    have hi := (List.getElem?_eq_some_iff.mp e).1
    have hj' := (List.getElem?_eq_some_iff.mp e1).1
    have a := (List.getElem?_eq_some_iff.mp e).2
    have b := (List.getElem?_eq_some_iff.mp e1).2
    have z : i = j := (List.getElem_inj (xs := φ.map Lc.d) (h₀ := by simpa using hi) (h₁ := by simpa using hj') S.ndd).mp (by
     rw [List.getElem_map, List.getElem_map, a, b, q])
    exact hj z
   have ml' := List.mem_of_getElem? e1
   refine (S.rep j l' o' e1 e2).keep (List.prefix_refl _) t (fun x ex => k _ _ ex (fun q => ?_) fun m => (hX _ m).2.1 (List.mem_map_of_mem ml')) fun x ex => k _ _ ex hd fun m => (hX _ m).2.2.1 (List.mem_map_of_mem ml')
   by_cases n : l'.a = l'.d
   ·exact hd (n ▸ q)
   ·exact S.a_notD e1 n (q ▸ List.mem_map_of_mem ml)
 ·have := (S.lo l ml).1
  rw [← q] at this
  exact absurd (Heap.lt_size ea) (Nat.not_lt.mpr this)
 ·rw [(hX _ m).2.2.2] at ea; cases ea
theorem growX {X : List Addr} (S : St ω φ H h) (hX : OffX ω.hb φ h X) (k : ∀ a o, h.get? a = some o → a ∉ X → h'.get? a = some o) (hs : h.objs.size ≤ h'.objs.size) : St ω φ H h' ∧ Step φ X h φ h' :=
 ⟨S.keepAll k (fun x m => ⟨(hX x m).1, fun l ml => ⟨fun q => (hX x m).2.1 (q ▸ List.mem_map_of_mem ml), fun q => (hX x m).2.2.1 (q ▸ List.mem_map_of_mem ml)⟩, (hX x m).2.2.2⟩) hs, ⟨List.prefix_refl _, fun a o e _ m => k a o e m, hs, fun _ m => .inl m⟩⟩
theorem allocX {X : List Addr} (S : St ω φ H h) (hX : OffX ω.hb φ h X) (k : ∀ a o, h.get? a = some o → a ∉ X → h'.get? a = some o) (hs : h.objs.size ≤ h'.objs.size) {l : Lc} {o : O} (r : (∀ v x, VR ω.K φ h v x → VR ω.K (φ ++ [l]) h' v x) → RepO ω (φ ++ [l]) h' l o) (fa : h.objs.size ≤ l.a) (fd : h.objs.size ≤ l.d) :
  St ω (φ ++ [l]) (H ++ [o]) h' ∧ Step φ X h (φ ++ [l]) h' := by
 obtain ⟨G, T⟩ := growX S hX k hs
 have t : ∀ a its, IsTup h a its → IsTup h' a its := fun a its T => by
  have T' := T
  obtain ⟨o, ho, r⟩ := T
  exact ⟨o, k _ _ ho (fun m => (hX _ m).1 _ T'), r⟩
 have r := r fun v x z => z.mono (List.prefix_append _ _) t
 refine ⟨⟨by simp [S.len], fun i l' o' e1 e2 => ?_, G.base, G.size, fun l' m => ?_, ?_, ?_⟩, ⟨List.prefix_append _ _, fun a o e _ m => k a o e m, hs, fun l' m => ?_⟩⟩
 ·by_cases hi : i < φ.length
  ·rw [List.getElem?_append_left hi] at e1
   rw [List.getElem?_append_left (S.len ▸ hi)] at e2
   exact (G.rep i l' o' e1 e2).keep (List.prefix_append _ _) (fun _ _ t => t) (fun _ e => e) fun _ e => e
  ·have hi : i = φ.length := by
    have := (List.getElem?_eq_some_iff.mp e1).1
    simp at this; omega
   subst hi
   rw [List.getElem?_append_right (Nat.le_refl _)] at e1
   rw [S.len, List.getElem?_append_right (Nat.le_refl _)] at e2
   simp at e1 e2
   subst e1 e2
   exact r
 ·rcases List.mem_append.mp m with m | m
  ·exact S.lo l' m
  ·rw [List.mem_singleton.mp m]; exact ⟨Nat.le_trans S.size fd, Nat.le_trans S.size fa⟩
 ·rw [List.map_append, List.nodup_append]
  refine ⟨S.ndd, by simp, fun a ha b hb' => ?_⟩
  simp at hb'
  obtain ⟨l', m, rfl⟩ := List.mem_map.mp ha
  have := (S.lt m).1
  show l'.d ≠ b
  rw [hb']; exact Nat.ne_of_lt (Nat.lt_of_lt_of_le this fd)
 ·rw [List.map_append, List.nodup_append]
  refine ⟨S.nda, by simp, fun a ha b hb' => ?_⟩
  simp at hb'
  obtain ⟨l', m, rfl⟩ := List.mem_map.mp ha
  have := (S.lt m).2
  show l'.a ≠ b
  rw [hb']; exact Nat.ne_of_lt (Nat.lt_of_lt_of_le this fa)
 ·rcases List.mem_append.mp m with m | m
  ·exact .inl m
  ·rw [List.mem_singleton.mp m]; exact .inr ⟨fd, fa⟩
theorem FrOk.stepL {m : Str → Option Value} (F : FrOk ω env φ ρ h) (l : ∀ x V, get x ρ = some V → env.kindOf x.str = some .local → ∃ v, m x.str = some v ∧ VR ω.K φ h v V) (S : St ω φ H h) (s : Step φ [env.locals] h φ' h') (n' : h'.Ns env.locals m) : FrOk ω env φ' ρ h' := by
 have t := fun v x (r : VR ω.K φ h v x) => r.step S s (fun x m => by rw [List.mem_singleton.mp m]; exact F.notTup _ (.head _))
 have hc : ∀ p ∈ env.cells, p.2 ≠ env.locals := fun p hp q => by
  obtain ⟨v, o, ho, hd⟩ := F.celm p hp
  obtain ⟨_, ⟨o', es, ep, ho', hd', _⟩, _⟩ := F.ns
  rw [q, ho'] at ho; cases ho; rw [hd'] at hd; cases hd
 have kc : ∀ p ∈ env.cells, ∀ v, h.IsCell p.2 v → h'.IsCell p.2 v := fun p m v ⟨o, ho, hd⟩ => ⟨o, s.keep _ o ho (F.off _ (List.mem_cons_of_mem _ (List.mem_map_of_mem m))).1 (by simpa using hc p m), hd⟩
 refine ⟨F.kind, F.glob, F.blt, ⟨m, n', fun x V e ek => ?_⟩, fun x c e => ?_, fun x V e ek => ?_, fun p hp => ?_, F.nd, fun a m => ⟨fun q => ?_, fun q => ?_, (F.off a m).2.2⟩⟩
 ·obtain ⟨v, e1, e2⟩ := l x V e ek
  exact ⟨v, e1, t _ _ e2⟩
 ·have hp : (x, c) ∈ env.cells := by
   obtain ⟨l1, l2, h1, h2⟩ := List.lookup_eq_some_iff.mp e
   rw [h1]; simp
  obtain ⟨v, hv⟩ := F.cel x c e
  exact ⟨v, kc _ hp v hv⟩
 ·obtain ⟨c, v, e1, e2, e3⟩ := F.celv x V e ek
  have hp : (x.str, c) ∈ env.cells := by
   obtain ⟨l1, l2, h1, h2⟩ := List.lookup_eq_some_iff.mp e1
   rw [h1]; simp
  exact ⟨c, v, e1, kc _ hp _ e2, t _ _ e3⟩
 ·obtain ⟨v, hv⟩ := F.celm p hp
  exact ⟨v, kc p hp v hv⟩
 ·obtain ⟨l, ml, rfl⟩ := List.mem_map.mp q
  rcases s.fresh l ml with z | z
  ·exact (F.off _ m).1 (List.mem_map_of_mem z)
  ·exact absurd (F.own_lt _ m) (Nat.not_lt.mpr z.1)
 ·obtain ⟨l, ml, rfl⟩ := List.mem_map.mp q
  rcases s.fresh l ml with z | z
  ·exact (F.off _ m).2.1 (List.mem_map_of_mem z)
  ·exact absurd (F.own_lt _ m) (Nat.not_lt.mpr z.2)
theorem Step.more {X X' : List Addr} (s : Step φ X h φ' h') (hX : ∀ x ∈ X, x ∈ X') : Step φ X' h φ' h' := ⟨s.pre, fun a o e n m => s.keep a o e n fun q => m (hX a q), s.size, s.fresh⟩
theorem Step.own (s : Step φ [env.locals] h φ' h') : Step φ (Mine.own env) h φ' h' := s.more fun x m => by rw [List.mem_singleton.mp m]; exact .head _
theorem setAttr_ok (Y : Hy ω) (T : Tab ω.K) {n : Nm} {v u : Value} {Q : Unit → Shared → Prop} (S : St ω φ H s.heap) (F : FrOk ω env φ ρ s.heap) (x : VR ω.K φ s.heap v z₁) (y : VR ω.K φ s.heap u z₂) (e : setAttrV H z₁ n z₂ = some H')
  (k : ∀ h' tk, Step φ (own env) s.heap φ h' → St ω φ H' h' → FrOk ω env φ ρ h' → Q () { s with heap := h', toks := tk }) : wpAny ω.m A (setAttr v n.str u) Q E s := by
 refine invR e fun i e1 e => inv1 e fun o ho e => invoI e fun c fs e3 e => invC e fun hok e => ?_
 apply x.oObj e1
 refine fun l hl => S.ins T hl (e3 ▸ ho) fun C es cnt G h3 h4 h5 h6 h7 => ?_
 cases e
 refine hide fun Ψ kΨ => ?_
 obtain ⟨attr, a1, a2, a3⟩ := G.at_ n hok.1
 obtain ⟨m, ns, lo⟩ := F.ns
 refine kΨ ?_
 have Fr : Fr ω.hb env.locals s.heap m := ⟨ns, S.base, (F.off _ (.head _)).2.2⟩
 have ml := List.mem_of_getElem? hl
 have mem : (l.d, dictOf es cnt) ∈ allN ω.hb env.locals s.heap := allN_mem.mpr ⟨fun q => (F.off _ (.head _)).1 (q ▸ List.mem_map_of_mem ml), by
  cases q : ω.hb.get? l.d with
  | none => rfl
  | some _ => exact absurd (Heap.lt_size q) (Nat.not_lt.mpr (S.lo l ml).1), h4⟩
 refine wpAny_sz (set_dict Fr Y.kin allN_news ⟨h3, rfl, rfl, h4⟩ rfl G.sa G.po a3 G.hd (getL_isSome _ h5) rfl (upd_of allN_nodup mem) ?_ ?_)
 ·have z1 := (putL_of (ω := ω) (n := n) (hsh := PyData.keyHash ω.w.params n.str) (t := s.toks + 1) h5 y).length
  have z2 := put_length n z₂ fs
  omega
 ·intro h' F' N' hs
  have kk := all_kept S F' N' (d := l.d) fun p hp hn => List.mem_map.mpr ⟨p, hp, by rw [if_neg hn]⟩
  have hd : h'.get? l.d = some (dictOf (putL n.str (PyData.keyHash ω.w.params n.str) (.str n.str (s.toks + 1)) u es) (putN n.str es cnt)) := (N' _ (List.mem_map.mpr ⟨_, mem, by rw [if_pos rfl]⟩)).1
  obtain ⟨S', s'⟩ := turnX (X := [env.locals]) (o := .inst c (put n z₂ fs)) S F.offX hl (fun a o e n1 n2 => kk a o e n1 (by simpa using n2)) hs (fun t ka => by
   refine ⟨C, _, _, G.gv, S.insC (e3 ▸ ho), ka (fun q => ?_) _ h3, hd, (putL_of h5 y).mono fun _ _ z => ⟨z.1, t _ _ z.2⟩, fun p hp => ?_, ?_⟩
   ·rw [q, h4] at h3; cases h3
   ·rcases put_mem _ _ _ p hp with q | ⟨q, hq, e⟩
    ·rw [q]; exact hok.1
    ·rw [← e]; exact h6 q hq
   ·have := put_length n z₂ fs; omega)
  exact k h' _ s'.own S' (F.stepL lo S s' F'.ns)
end
end
end Mine
namespace Mine
section
open PySem PySem.W PyProof.Rows PySem.Calls
section
variable {ω : Gd} {φ φ' : List Lc} {H H' : MH} {h h' : Heap} {env : Env} {ρ : Loc} {r : Nat} {A : Around} {E : Value → Shared → Prop} {s : Shared} {z z₁ z₂ : V}
theorem valueAt_k {R : Value → V → Prop} {k : Int} {kv : List (Int × Value)} {kvs : List (Int × V)} (x : All2 (KE R) kv kvs) (e : get k kvs = some z) : ∃ v, valueAt kv k = some v ∧ R v z := by
 induction x with
 | nil => cases e
 | cons a t ih =>
  rename_i p q l r
  refine hide fun Ψ kΨ => ?_
  obtain ⟨e1, e2⟩ := a
  obtain ⟨q1, q2⟩ := q
  refine kΨ ?_
  unfold get at e
  unfold valueAt
  rw [List.find?_cons]
  by_cases c : q1 = k
  ·rw [if_pos c] at e
   cases e
   have : decide (p.1 = k) = true := by simp [e1, c]
   rw [this]
   exact ⟨_, rfl, e2⟩
  ·rw [if_neg c] at e
   have : decide (p.1 = k) = false := by simp [e1, c]
   rw [this]
   exact ih e
theorem valueAt_none {R : Value → V → Prop} {k : Int} {kv : List (Int × Value)} {kvs : List (Int × V)} (x : All2 (KE R) kv kvs) : (valueAt kv k).isSome = (get k kvs).isSome := by
 induction x with
 | nil => rfl
 | cons a t ih =>
  rename_i p q l r
  obtain ⟨e1, e2⟩ := a
  obtain ⟨q1, q2⟩ := q
  unfold get
  unfold valueAt at ih ⊢
  rw [List.find?_cons]
  by_cases c : q1 = k
  ·have : decide (p.1 = k) = true := by simp [e1, c]
   rw [this, if_pos c]; rfl
  ·have : decide (p.1 = k) = false := by simp [e1, c]
   rw [this, if_neg c]; exact ih
theorem valueAt_s {R : Value → V → Prop} {k : Nm} {kv : List (Str × Value)} {kvs : List (Nm × V)} (x : All2 (SE R) kv kvs) (e : get k kvs = some z) : ∃ v, valueAt kv k.str = some v ∧ R v z := by
 induction x with
 | nil => cases e
 | cons a t ih =>
  rename_i p q l r
  refine hide fun Ψ kΨ => ?_
  obtain ⟨e1, e2⟩ := a
  obtain ⟨q1, q2⟩ := q
  refine kΨ ?_
  unfold get at e
  unfold valueAt
  rw [List.find?_cons]
  by_cases c : q1 = k
  ·rw [if_pos c] at e
   cases e
   have : decide (p.1 = k.str) = true := by simp [e1, c]
   rw [this]
   exact ⟨_, rfl, e2⟩
  ·rw [if_neg c] at e
   have : decide (p.1 = k.str) = false := by
    simp only [e1, decide_eq_false_iff_not]; exact fun q => c (Nm.inj q)
   rw [this]
   exact ih e
theorem stored_k {R : Value → V → Prop} {k : Int} {v : Value} {kv : List (Int × Value)} {kvs : List (Int × V)} (x : All2 (KE R) kv kvs) (hn : (kv.map (·.1)).Nodup) (y : R v z) : All2 (KE R) (stored kv k v) (put k z kvs) := by
 have hh : ∀ {kv : List (Int × Value)} {kvs : List (Int × V)}, All2 (KE R) kv kvs → k ∉ kv.map (·.1) → All2 (KE R) (kv.map (fun p => if p.1 = k then (p.1, v) else p)) kvs ∧ put k z kvs = kvs ++ [(k, z)] := by
  intro kv kvs x
  induction x with
  | nil => intro _; exact ⟨.nil, rfl⟩
  | cons a t ih =>
   rename_i p q l r
   intro m
   simp only [List.map_cons, List.mem_cons, not_or] at m
   obtain ⟨i1, i2⟩ := ih m.2
   obtain ⟨q1, q2⟩ := q
   have n : p.1 ≠ k := fun e => m.1 e.symm
   have n' : q1 ≠ k := fun e => n (a.1.trans e)
   refine ⟨?_, ?_⟩
   ·rw [List.map_cons, if_neg n]; exact .cons a i1
   ·unfold put; rw [if_neg n', i2]; rfl
 induction x with
 | nil => exact .cons ⟨rfl, y⟩ .nil
 | cons a t ih =>
  rename_i p q l r
  obtain ⟨q1, q2⟩ := q
  obtain ⟨n1, n2⟩ := List.nodup_cons.mp hn
  unfold put
  by_cases c : q1 = k
  ·have c' : p.1 = k := a.1.trans c
   rw [if_pos c]
   unfold stored
   rw [if_pos (by simp [c'])]
   rw [List.map_cons, if_pos c']
   exact .cons ⟨a.1, y⟩ (hh t (c' ▸ n1)).1
  ·have c' : p.1 ≠ k := fun e => c (a.1.symm.trans e)
   rw [if_neg c]
   have ih := ih n2
   unfold stored at ih ⊢
   rw [List.any_cons]
   simp only [c', decide_false, Bool.false_or]
   split
   ·rename_i q
    rw [if_pos q] at ih
    rw [List.map_cons, if_neg c']
    exact .cons a ih
   ·rename_i q
    rw [if_neg q] at ih
    exact .cons a ih
theorem St.lst (S : St ω φ H h) {i : Nat} {l : Lc} {xs : List V} (hl : φ[i]? = some l) (ho : H[i]? = some (.list xs)) {P : Prop} (k : l.d = l.a → ∀ n its, h.get? l.a = some (listOf its n) → All2 (VR ω.K φ h) its.toList xs → xs.length ≤ 1000000 → its.size = xs.length → P) : P := by
 refine hide fun Ψ kΨ => ?_
 obtain ⟨l', hl', e1, n, its, e2, e3, e4⟩ := S.lc ho
 refine kΨ ?_
 rw [hl] at hl'
 cases hl'
 have hz := e3.length
 rw [Array.length_toList] at hz
 exact k e1 n its e2 e3 e4 hz
theorem St.idc (S : St ω φ H h) {i : Nat} {l : Lc} {kvs : List (Int × V)} (hl : φ[i]? = some l) (ho : H[i]? = some (.idict kvs)) {P : Prop} (k : l.d = l.a → ∀ kv' ep, h.DictAt (intKind ω.prog ω.w) l.a kv' ep → (ep : Int) = l.e + kvs.length → All2 (KE (VR ω.K φ h)) kv' kvs → kvs.length ≤ 1000000 → kv'.length = kvs.length → P) : P := by
 refine hide fun Ψ kΨ => ?_
 obtain ⟨l', hl', e1, kv', ep, e2, e3, e4, e5⟩ := S.lc ho
 refine kΨ ?_
 rw [hl] at hl'
 cases hl'
 exact k e1 kv' ep e2 e3 e4 e5 e4.length
theorem St.sdc (S : St ω φ H h) {i : Nat} {l : Lc} {kvs : List (Nm × V)} (hl : φ[i]? = some l) (ho : H[i]? = some (.sdict kvs)) {P : Prop} (k : ∀ kv', h.DictOf (PySem.strKind ω.prog ω.w) l.a kv' → All2 (SE (VR ω.K φ h)) kv' kvs → P) : P := by
 refine hide fun Ψ kΨ => ?_
 obtain ⟨l', hl', e1, kv', e2, e4, e5⟩ := S.lc ho
 refine kΨ ?_
 rw [hl] at hl'
 cases hl'
 exact k kv' e2 e4
theorem nth_ok {i : Int} {a : Addr} {its : Array Value} {xs : List V} {t : Tok} {Q : Value → Shared → Prop} {R : Value → V → Prop} (hL : s.heap.IsList a its) (e3 : All2 R its.toList xs) (hz : its.size = xs.length) (h4 : xs.length ≤ 1000000) (e : nth xs i = some z) (k : ∀ q, R q z → Q q s) : wpAny ω.m A (getItem (.ref a) (.int i t)) Q E s := by
 refine invX e (fun h0 e => ?_) fun h0 e => invC e fun h1 e => ?_
 ·refine hide fun Ψ kΨ => ?_
  obtain ⟨q, q1, q2⟩ := e3.get e
  refine kΨ ?_
  have hlt := (List.getElem?_eq_some_iff.mp e).1
  exact wpAny_getItem_list hL h0 (by omega) (by simpa using q1) (k q q2)
 ·refine hide fun Ψ kΨ => ?_
  obtain ⟨q, q1, q2⟩ := e3.get e
  refine kΨ ?_
  exact wpAny_getItem_list_neg hL (by omega) (by omega) (by omega) (by rw [show (i + (its.size : Int)) = (xs.length : Int) + i from by omega]; simpa using q1) (k q q2)
theorem sub_ok {value slice : Expr} {v u : Value} {Q : Value → Shared → Prop} (S : St ω φ H s.heap) (x : VR ω.K φ s.heap v z₁) (y : VR ω.K φ s.heap u z₂) (e : subOf H z₁ z₂ = some z)
  (hs : subscripted slice false v u = operate [v, u] (getItem v u))
  (k : ∀ q tk, VR ω.K φ s.heap q z → Q q { s with toks := tk }) : wpAny ω.m A (subscriptTail value slice v u) Q E s := by
 revert hs
 refine invE e (fun e => invP e fun a b e1 e => invI e fun i e2 e => ?_) fun e => invob e fun i o e1 ho e => invE e (fun e => invoL e fun xs e3 e => invI e fun j e2 e => ?_) fun e => invE e (fun e => invoD e fun kvs e3 e => invI e fun j e2 e => ?_) fun e => invoS e fun kvs e3 e => invS e fun j e2 e => ?_
 ·apply x.oPair e1
  intro x u w ht ha hb
  apply y.oInt e2
  refine fun t hs => invX e (fun hi e => ?_) fun _ e => invC e fun hi e => ?_
  ·rw [hi] at hs ⊢
   exact item_tupleT (l := [u, w]) (j := 0) ht (by decide) (by decide) rfl rfl (k _ s.toks (Option.some.inj e ▸ ha)) hs
  ·rw [hi] at hs ⊢
   exact item_tupleT (l := [u, w]) (j := 1) ht (by decide) (by decide) rfl rfl (k _ s.toks (Option.some.inj e ▸ hb)) hs
 ·apply x.oObj e1
  intro l hl
  apply y.oInt e2
  refine fun t hs => S.lst hl (e3 ▸ ho) fun _ n its h2 h3 h4 hz => ?_
  have hL : s.heap.IsList l.a its := ⟨_, h2, rfl, n, rfl⟩
  exact tail_any hL.typeIs slot_list_getitem.lookup (nth_ok hL h3 hz h4 e fun q r => k q s.toks r) hs
 ·apply x.oObj e1
  intro l hl
  apply y.oInt e2
  refine fun t hs => S.idc hl (e3 ▸ ho) fun _ kv' ep h2 _ h4 _ _ => ?_
  obtain ⟨q, q1, q2⟩ := valueAt_k h4 e
  exact tail_any h2.dictOf.mapOf.typeIs slot_dict_getitem.lookup (wpAny_getItem_of (intKind_is ω.prog ω.w j t) h2.dictOf.mapOf q1 (k q _ q2)) hs
 ·apply x.oObj e1
  intro l hl
  apply y.oStr e2
  refine fun t hs => S.sdc hl (e3 ▸ ho) fun kv' h2 h4 => ?_
  obtain ⟨q, q1, q2⟩ := valueAt_s h4 e
  exact tail_any h2.mapOf.typeIs slot_dict_getitem.lookup (wpAny_getItem_of (PySem.strKind_is ω.prog ω.w j.str t) h2.mapOf q1 (k q _ q2)) hs
theorem bits_le {a : Int} (h : a.natAbs ≤ 100000000) : Builtin.Int.intBits a ≤ 64 := by
 unfold Builtin.Int.intBits
 split
 ·omega
 ·rename_i n
  have n0 : a.natAbs ≠ 0 := fun q => n (by have : a = 0 := Int.natAbs_eq_zero.mp q; simp [this])
  have : a.natAbs.log2 < 27 := (Nat.log2_lt n0).mpr (by omega)
  omega
noncomputable def opInv : Op → Operator
 | .add => .Add | .sub => .Sub | .mul => .Mult | .mod => .Mod
theorem opInv_of {op : Operator} {o : Op} (h : opOf op = some o) : op = opInv o := by
 cases op <;> first | exact Option.some.inj h ▸ rfl | cases h
theorem addL_ok {v u : Value} {Q : Value → Shared → Prop} (S : St ω φ H s.heap) (F : FrOk ω env φ ρ s.heap) (x : VR ω.K φ s.heap v z₁) (y : VR ω.K φ s.heap u z₂) (e : addL z₁ z₂ H = some (z, H'))
  (k : ∀ q h' tk φ', Step φ (own env) s.heap φ' h' → St ω φ' H' h' → FrOk ω env φ' ρ h' → VR ω.K φ' h' q z → Q q { s with heap := h', toks := tk }) : wpAny ω.m A (binaryOp .Add v u) Q E s := by
 refine invL e fun i xs e1 h1 e => invL e fun j ys e2 h2 e => invC e fun hz e => ?_
 apply x.oObj e1
 intro l1 hl1
 apply y.oObj e2
 refine fun l2 hl2 => S.lst hl1 h1 fun _ n1 its1 b1 c1 d1 z1 => S.lst hl2 h2 fun _ n2 its2 b2 c2 d2 z2 => ?_
 cases e
 refine hide fun Ψ kΨ => ?_
 obtain ⟨m, ns, lo⟩ := F.ns
 refine kΨ ?_
 refine wpAny_sz (add_arrays (news := allN ω.hb env.locals s.heap) ⟨ns, S.base, (F.off _ (.head _)).2.2⟩ allN_news ⟨_, b1, rfl, _, rfl⟩ ⟨_, b2, rfl, _, rfl⟩ (fun h' F' N' hs => ?_) (by rw [sizeLine_eq]; omega))
 have kk := all_kept (d := s.heap.objs.size) S F' N' fun p hp _ => .tail _ hp
 obtain ⟨S', s'⟩ := allocX (X := [env.locals]) (l := ⟨s.heap.objs.size, s.heap.objs.size, 0⟩) (o := .list (xs ++ ys)) S F.offX (fun a o e n => kk a o e (Nat.ne_of_lt (Heap.lt_size e)) (by simpa using n)) hs (fun t => ⟨rfl, _, _, (N' _ (.head _)).1, by
  have := c1.append c2
  simpa using this.mono fun _ _ z => t _ _ z, by simp; omega⟩) (Nat.le_refl _) (Nat.le_refl _)
 exact k _ h' _ _ s'.own S' (F.stepL lo S s' F'.ns) (S.new _)
theorem bin_ok {op : Operator} {o : Op} (ho : opOf op = some o) {v u : Value} {Q : Value → Shared → Prop} (S : St ω φ H s.heap) (F : FrOk ω env φ ρ s.heap) (x : VR ω.K φ s.heap v z₁) (y : VR ω.K φ s.heap u z₂) (e : binV o z₁ z₂ H = some (z, H'))
  (k : ∀ q h' tk φ', Step φ (own env) s.heap φ' h' → St ω φ' H' h' → FrOk ω env φ' ρ h' → VR ω.K φ' h' q z → Q q { s with heap := h', toks := tk }) : wpAny ω.m A (binaryOp op v u) Q E s := by
 cases o with
 | add =>
  rw [opInv_of ho]
  refine invE e (fun e => invII e fun a b e1 e2 e => ?_) fun e => addL_ok S F x y e k
  apply x.oInt e1
  intro t1
  apply y.oInt e2
  intro t2
  cases e
  exact add_int (k _ s.heap _ φ .refl S F (.int _ _))
 | sub =>
  rw [opInv_of ho]
  refine invII e fun a b e1 e2 e => ?_
  apply x.oInt e1
  intro t1
  apply y.oInt e2
  intro t2
  cases e
  exact sub_int (k _ s.heap _ φ .refl S F (.int _ _))
 | mul =>
  rw [opInv_of ho]
  refine invII e fun a b e1 e2 e => invC e fun hc e => ?_
  apply x.oInt e1
  intro t1
  apply y.oInt e2
  intro t2
  cases e
  exact mul_int (k _ s.heap _ φ .refl S F (.int _ _)) (IntMulOk.of_left (bits_le hc.1))
 | mod =>
  rw [opInv_of ho]
  refine invII e fun a b e1 e2 e => invC e fun hc e => ?_
  apply x.oInt e1
  intro t1
  apply y.oInt e2
  intro t2
  cases e
  refine mod_int' (by omega) (k _ s.heap _ φ .refl S F ?_)
  rw [Int.fmod_eq_emod_of_nonneg _ (by omega)]
  exact .int _ _
end
end
end Mine
namespace Mine
section
open PySem PySem.W PyProof.Rows PySem.Calls
theorem oeq_kind : builtinKind "object.__eq__" = some .slot := by decide +kernel
theorem oeq_split : splitId "object.__eq__" = some ("object", "__eq__") := by decide +kernel
theorem oeq_plain : plainId "object.__eq__" = true := by decide +kernel
section
variable {ω : Gd} {φ φ' : List Lc} {H H' : MH} {h h' : Heap} {env : Env} {ρ : Loc} {r : Nat} {A : Around} {E : Value → Shared → Prop} {s : Shared} {z z₁ z₂ : V}
theorem isSame_ref {x y : Addr} {ox oy : Obj} {Q : Bool → Shared → Prop} (hx : s.heap.get? x = some ox) (hy : s.heap.get? y = some oy) (hc : ox.cls ≠ .type "tuple") (k : Q (x == y) s) : wpAny ω.m A (isSame (.ref x) (.ref y)) Q E s := by
 unfold isSame
 dsimp only
 by_cases e : x = y
 ·subst e
  rw [if_pos (by simp)]
  exact wpAny_pure (by simpa using k)
 ·rw [if_neg (by simpa using e)]
  refine wpAny_bind (wpAny_load hx (wpAny_bind (wpAny_load hy ?_)))
  have : (x == y) = false := by simpa using e
  rw [this] at k
  obtain ⟨c1, d1, e1, f1⟩ := ox
  obtain ⟨c2, d2, e2, f2⟩ := oy
  dsimp only at hc ⊢
  split
  ·exact absurd rfl hc
  ·exact wpAny_pure k
theorem tryEq {x y C : Addr} {ox oy : Obj} {od : Option Obj} {Q : Option Value → Shared → Prop} (X : ω.K.In s.heap) (I : PySem.W.InstAt s.heap x ox C od) (hy : s.heap.get? y = some oy) (hf : findIn ω.K (.ref C) "__eq__" = some (some (.builtin "object.__eq__"))) (hm : mroIn ω.K C (.type "object") = some true)
  (k : Q (if x = y then some (.bool true) else none) s) : wpAny ω.m A (tryCompare (.ref x) "__eq__" (.ref y)) Q E s := by
 have fin : wpAny ω.m A (call (.builtin "object.__eq__") ([.ref x] ++ [.ref y])) (fun v s' => s' = s ∧ v = if x = y then .bool true else .notImplemented) E s := by
  refine wpAny_call (codeAny_call_builtin oeq_plain F.entry_object_eq (check_slot oeq_kind oeq_split (I.type.andThen (looks_mroIn X hm)) (F.args_object_eq_2 _ _) ?_))
  unfold Builtin.«object.__eq__»
  refine wpAny_bind (wpAny_pure ?_)
  refine wpAny_bind (isSame_ref I.at_ hy (by rw [I.cls]; intro e; cases e) ?_)
  by_cases e : x = y
  ·subst e
   simp only [beq_self_eq_true, if_true]
   exact wpAny_pure ⟨rfl, rfl⟩
  ·have : (x == y) = false := by simpa using e
   rw [this, if_neg e]
   exact wpAny_pure ⟨rfl, rfl⟩
 unfold tryCompare
 simp only [callSpecialIfBound?, bindSpecialIfBound?]
 have fin' : wpAny ω.m A (call (.builtin "object.__eq__") ([.ref x] ++ [.ref y]) >>= fun v => pure (some v)) (fun v s' => s' = s ∧ v = some (if x = y then .bool true else .notImplemented)) E s :=
  wpAny_bind (wpAny_mono fin (fun v s' z => wpAny_pure ⟨z.1, by rw [z.2]⟩) fun _ _ z => z)
 have last : ∀ (v : Option Value) (s' : Shared), (s' = s ∧ v = some (if x = y then .bool true else .notImplemented)) → wpAny ω.m A (match v with
  | some .notImplemented | none => pure none
  | some v => pure (some v)) Q E s' := by
  rintro v s' ⟨rfl, rfl⟩
  by_cases e : x = y
  ·rw [if_pos e] at k ⊢; exact wpAny_pure k
  ·rw [if_neg e] at k ⊢; exact wpAny_pure k
 refine wpAny_bind (wpAny_holding (wpAny_bind (wpAny_bind (wpAny_bind (I.type.here ((looks_findIn X hf).here ?_))))))
 refine wpAny_bind (wpAny_askSetting (wpAny_ite ?_))
 have b := F.slot_object_eq.bind (.ref x)
 split
 ·refine wpAny_bind (b ▸ wpAny_pure ?_)
  exact wpAny_pure (wpAny_mono fin' last fun _ _ z => z)
 ·refine wpAny_tryCatch (wpAny_bind (b ▸ wpAny_pure ?_))
  exact wpAny_pure (wpAny_mono fin' last fun _ _ z => z)
theorem eq_inst {x y C : Addr} {ox oy : Obj} {od od' : Option Obj} {Q : Value → Shared → Prop} (hu : A.units < cLine) (X : ω.K.In s.heap) (I : PySem.W.InstAt s.heap x ox C od) (J : PySem.W.InstAt s.heap y oy C od') (hf : findIn ω.K (.ref C) "__eq__" = some (some (.builtin "object.__eq__"))) (hm : mroIn ω.K C (.type "object") = some true)
  (k : Q (.bool (decide (x = y))) s) : wpAny ω.m A (compareOp .Eq (.ref x) (.ref y)) Q E s := by
 show wpAny _ _ (richCompare .Eq (.ref x) (.ref y)) _ _ _
 unfold richCompare
 simp only [oneThing_ref]
 refine wpAny_holding (wpAny_bind (wpAny_cRoomFor hu ?_))
 refine wpAny_bind (I.type.here (wpAny_bind (J.type.here ?_)))
 simp only [bne_self_eq_false, Bool.false_eq_true, if_false]
 refine wpAny_bind (wpAny_pure ?_)
 simp only [Bool.false_eq_true, if_false]
 refine wpAny_bind (tryEq X I J.at_ hf hm ?_)
 by_cases e : x = y
 ·rw [if_pos e]
  have : decide (x = y) = true := by simpa using e
  rw [this] at k
  exact wpAny_pure k
 ·rw [if_neg e]
  have n : decide (x = y) = false := by simpa using e
  rw [n] at k
  simp only [Bool.not_false, if_true]
  refine wpAny_bind (tryEq X J I.at_ hf hm ?_)
  rw [if_neg (fun q => e q.symm)]
  dsimp only
  refine wpAny_bind (wpAny_rule (wpAny_bind (isSame_ref I.at_ J.at_ (by rw [I.cls]; intro e; cases e) ?_)))
  have : (x == y) = false := by simpa using e
  rw [this]
  exact wpAny_pure k
end
end
end Mine
namespace Mine
section
open PySem PySem.W PyProof.Rows PySem.Calls
section
variable {ω : Gd} {φ φ' : List Lc} {H H' : MH} {h h' : Heap} {env : Env} {ρ : Loc} {r : Nat} {A : Around} {E : Value → Shared → Prop} {s : Shared} {z z₁ z₂ : V}
theorem str_beq (a b : Nm) : (a.str == b.str) = decide (a = b) := by
 by_cases e : a = b
 ·subst e; simp
 ·have : a.str ≠ b.str := fun q => e (Nm.inj q)
  simp [e, this]
theorem none_beq {v : Value} (x : VR ω.K φ h v z) (T : Tab ω.K) : (v == Value.none) = isN z := by
 cases x with
 | none => rfl
 | g e =>
  rename_i n
  have : v ≠ .none := by
   intro q
   subst q
   exact T.nn n e
  exact beq_eq_false_iff_ne.2 this
 | _ => rfl
theorem memInts_any {i : Int} {vs : List Value} {xs : List V} (x : All2 (VR ω.K φ h) vs xs) : ∀ {b : Bool}, memInts i xs = some b → (∀ y ∈ vs, ∃ j t, y = .int j t) ∧ (vs.any fun y => match y with | .int j _ => j == i | _ => false) = b := by
 induction x with
 | nil =>
  intro b e
  cases e
  exact ⟨fun y m => (nomatch m), rfl⟩
 | cons a t ih =>
  intro b e
  refine invI e fun j e1 e => inv1 e fun b' q e => ?_
  cases e
  obtain ⟨i1, i2⟩ := ih q
  apply a.oInt e1
  refine fun t => ⟨fun y m => ?_, ?_⟩
  ·rcases List.mem_cons.mp m with rfl | m
   ·exact ⟨_, _, rfl⟩
   ·exact i1 y m
  ·rw [List.any_cons, i2]
   rfl
theorem VR.two {K : Frag} {h : Heap} {v u : Value} {a b : Int} {P : Value → Value → Prop} (x : VR K φ h v z₁) (e : z₁ = .int a) (y : VR K φ h u z₂) (e' : z₂ = .int b) (k : ∀ t t', P (.int a t) (.int b t')) : P v u := by
 subst e e'; obtain ⟨t, rfl⟩ := x.inv; obtain ⟨t', rfl⟩ := y.inv; exact k t t'
theorem VR.twoS {K : Frag} {h : Heap} {v u : Value} {a b : Nm} {P : Value → Value → Prop} (x : VR K φ h v z₁) (e : z₁ = .str a) (y : VR K φ h u z₂) (e' : z₂ = .str b) (k : ∀ t t', P (.str a.str t) (.str b.str t')) : P v u := by
 subst e e'; obtain ⟨t, rfl⟩ := x.inv; obtain ⟨t', rfl⟩ := y.inv; exact k t t'
theorem eqV_ok {v u : Value} {b : Bool} {Q : Value → Shared → Prop} (x : VR ω.K φ s.heap v z₁) (y : VR ω.K φ s.heap u z₂) (e : eqV z₁ z₂ = some b) (k : Q (.bool b) s) : wpAny ω.m A (compareOp .Eq v u) Q E s := by
 refine invE e (fun e => invII e fun a b e1 e2 e => ?_) fun e => invE e (fun e => invS e fun a e1 e => invS e fun b e2 e => ?_) fun e => invB e fun a e1 e => invB e fun b e2 e => ?_
 ·obtain rfl := Option.some.inj e
  apply x.two e1 y e2
  exact fun t t' => eq_int k
 ·obtain rfl := Option.some.inj e
  apply x.twoS e1 y e2
  exact fun t t' => eq_str (by rw [str_beq]; exact k)
 ·obtain rfl := Option.some.inj e
  apply x.oBool e1
  apply y.oBool e2
  exact eq_bool (by rw [show (a == b) = decide (a = b) by cases a <;> cases b <;> rfl]; exact k)
theorem ne_pair {x y : Addr} {u w u' w' : Value} {a b c d : Int} {z1 z2 z3 z4 : V} {Q : Value → Shared → Prop} (tx : IsTup s.heap x #[u, w]) (ty : IsTup s.heap y #[u', w']) (xa : VR ω.K φ s.heap u z1) (xb : VR ω.K φ s.heap w z2) (ya : VR ω.K φ s.heap u' z3) (yb : VR ω.K φ s.heap w' z4)
  (e1 : z1 = .int a) (e2 : z2 = .int b) (e3 : z3 = .int c) (e4 : z4 = .int d) (R : Room A r) (k : Q (.bool (!(decide (a = c) && decide (b = d)))) s) : wpAny ω.m A (compareOp .NotEq (.ref x) (.ref y)) Q E s := by
 revert tx ty
 apply xa.two e1 xb e2
 intro t1 t2
 apply ya.two e3 yb e4
 intro t3 t4 ⟨o1, h1, c1, n1, d1⟩ ⟨o2, h2, c2, n2, d2⟩
 refine ne_dataH (da := .tuple [.int a, .int b]) (db := .tuple [.int c, .int d]) (reads_tuple_at h1 c1 d1 (.cons (.int _ _) (.cons (.int _ _) .nil))) (reads_tuple_at h2 c2 d2 (.cons (.int _ _) (.cons (.int _ _) .nil))) rfl rfl (by have := R.uni; rw [cLine_is]; omega) ?_
 have e1 : PyData.eqv (.tuple [.int a, .int b]) (.tuple [.int c, .int d]) = (decide (a = c) && decide (b = d)) := by
  simp only [PyData.eqv, PyData.eqvAll, Bool.and_true]
  rfl
 rw [e1]; exact k
theorem neV_ok {v u : Value} {b : Bool} {Q : Value → Shared → Prop} (x : VR ω.K φ s.heap v z₁) (y : VR ω.K φ s.heap u z₂) (e : neV z₁ z₂ = some b) (R : Room A r) (k : Q (.bool b) s) : wpAny ω.m A (compareOp .NotEq v u) Q E s := by
 refine invE e (fun e => invII e fun a b e1 e2 e => ?_) fun e => invE e (fun e => invS e fun a e1 e => invS e fun b e2 e => ?_) fun e => invP e fun a b e1 e => invP e fun c d e2 e => invII e fun a' b' e3 e4 e => invII e fun c' d' e5 e6 e => ?_
 ·obtain rfl := Option.some.inj e
  apply x.two e1 y e2
  exact fun t t' => ne_int k
 ·obtain rfl := Option.some.inj e
  apply x.twoS e1 y e2
  refine fun t t' => ne_str ?_
  rw [bne, str_beq]; exact k
 ·obtain rfl := Option.some.inj e
  apply x.oPair e1
  intro x u w tx xa xb
  apply y.oPair e2
  intro y u' w' ty ya yb
  exact ne_pair tx ty xa xb ya yb e3 e4 e5 e6 R k
theorem sys_ne (Y : Hy ω) {a : Addr} (ha : ω.hb.objs.size ≤ a) : (a == sysModules) = false := by
 refine hide fun Ψ kΨ => ?_
 obtain ⟨mc, n, _⟩ := Y.nol
 refine kΨ ?_
 have := n.lt
 have h2 : sysModules < cStatics := by decide
 simp only [beq_eq_false_iff_ne, ne_eq]
 intro q
 subst q
 exact absurd (Nat.lt_of_lt_of_le (Nat.lt_trans h2 this) ha) (Nat.lt_irrefl _)
theorem St.same_a (S : St ω φ H h) {i j : Nat} {la lb : Lc} (hl : φ[i]? = some la) (hl2 : φ[j]? = some lb) : decide (la.a = lb.a) = decide (i = j) := by
 by_cases q : i = j
 ·subst q
  rw [hl] at hl2; cases hl2; rw [decide_eq_true rfl, decide_eq_true rfl]
 ·rw [decide_eq_false q, decide_eq_false]
  intro z
  have a := (List.getElem?_eq_some_iff.mp hl)
  have b := (List.getElem?_eq_some_iff.mp hl2)
  refine hide fun Ψ kΨ => ?_
  obtain ⟨hi, a⟩ := a
  obtain ⟨hj, b⟩ := b
  refine kΨ ?_
  exact q ((List.getElem_inj (xs := φ.map Lc.a) (h₀ := by rw [List.length_map]; exact hi) (h₁ := by rw [List.length_map]; exact hj) S.nda).mp (by
   rw [List.getElem_map, List.getElem_map, a, b, z]))
theorem eqO_ok (Y : Hy ω) (T : Tab ω.K) {v u : Value} {b : Bool} {Q : Value → Shared → Prop} (R : Room A r) (S : St ω φ H s.heap) (x : VR ω.K φ s.heap v z₁) (y : VR ω.K φ s.heap u z₂) (e : eqO H z₁ z₂ = some b)
  (k : Q (.bool b) s) : wpAny ω.m A (compareOp .Eq v u) Q E s := by
 refine invR e fun i e1 e => invR e fun j e2 e => inv1 e fun o ho e => invoI e fun c f e3 e => inv1 e fun o' ho' e => invoI e fun c' f' e4 e => invC e fun hc e => ?_
 obtain rfl := Option.some.inj e
 subst hc
 apply x.oObj e1
 intro la hl
 apply y.oObj e2
 refine fun lb hl2 => S.ins T hl (e3 ▸ ho) fun C es cnt G h1 h2 _ _ _ => S.ins T hl2 (e4 ▸ ho') fun C2 es2 cnt2 G2 g1 g2 _ _ _ => ?_
 have := G.gv.symm.trans G2.gv
 cases this
 exact eq_inst (od := some (dictOf es cnt)) (od' := some (dictOf es2 cnt2)) (by have := R.uni; rw [cLine_is]; omega) (S.kin Y) ⟨h1, rfl, rfl, h2⟩ ⟨g1, rfl, rfl, g2⟩ G.eq G.mo (by rw [S.same_a hl hl2]; exact k)
theorem in_ok (Y : Hy ω) {v u : Value} {b : Bool} {Q : Value → Shared → Prop} (S : St ω φ H s.heap) (x : VR ω.K φ s.heap v z₁) (y : VR ω.K φ s.heap u z₂) (e : cmpV H .in_ z₁ z₂ = some b)
  (k : ∀ tk, Q (.bool b) { s with toks := tk }) : wpAny ω.m A (compareOp .In v u) Q E s := by
 refine invI e fun i e1 e => invob e fun j o e2 ho e => invoD e fun kvs e3 e => ?_
 obtain rfl := Option.some.inj e
 apply x.oInt e1
 intro t
 apply y.oObj e2
 refine fun l hl => S.idc hl (e3 ▸ ho) fun _ kv' ep h2 _ h4 _ _ => ?_
 exact wpAny_in_of (intKind_is ω.prog ω.w i _) (sys_ne Y (S.lo _ (List.mem_of_getElem? hl)).2) h2.dictOf.mapOf (by rw [valueAt_none h4]; exact k _)
theorem notIn_ok {v u : Value} {b : Bool} {Q : Value → Shared → Prop} (S : St ω φ H s.heap) (x : VR ω.K φ s.heap v z₁) (y : VR ω.K φ s.heap u z₂) (e : cmpV H .notIn z₁ z₂ = some b)
  (k : Q (.bool b) s) : wpAny ω.m A (compareOp .NotIn v u) Q E s := by
 refine invI e fun i e1 e => invL e fun j xs e2 hj e => inv1 e fun b' hm e => ?_
 obtain rfl := Option.some.inj e
 apply x.oInt e1
 intro t
 apply y.oObj e2
 refine fun l hl => S.lst hl hj fun _ n its h2 h3 _ _ => ?_
 obtain ⟨m1, m2⟩ := memInts_any h3 hm
 refine SeqRoads2.notIn_list (fun y => match y with | .int j _ => j == i | _ => false) (fun y my => ?_) h2 ?_
 ·obtain ⟨j, t, rfl⟩ := m1 y (by simpa using my)
  exact MeetsSeq.EqGives.int _ _ _ _
 ·rw [← Array.any_toList, m2]; exact k
theorem isN_ok (T : Tab ω.K) {u : Value} (y : VR ω.K φ h u z) (e : isN z = true) : u = .none := by
 have := none_beq y T
 rw [e] at this
 exact beq_iff_eq.mp this
noncomputable def cmInv : Cm → CmpOp
 | .lt => .Lt | .le => .LtE | .gt => .Gt | .ge => .GtE | .eq => .Eq | .ne => .NotEq | .is => .Is | .isNot => .IsNot | .in_ => .In | .notIn => .NotIn
theorem cmInv_of {op : CmpOp} {o : Cm} (h : cmOf op = some o) : op = cmInv o := by
 cases op <;> exact Option.some.inj h ▸ rfl
theorem cmp_ok (Y : Hy ω) (T : Tab ω.K) {op : CmpOp} {o : Cm} (ho : cmOf op = some o) {v u : Value} {b : Bool} {Q : Value → Shared → Prop} (R : Room A r) (S : St ω φ H s.heap) (x : VR ω.K φ s.heap v z₁) (y : VR ω.K φ s.heap u z₂) (e : cmpV H o z₁ z₂ = some b)
  (k : ∀ tk, Q (.bool b) { s with toks := tk }) : wpAny ω.m A (compareOp op v u) Q E s := by
 cases o with
 | eq =>
  rw [cmInv_of ho]
  exact invE e (fun e => eqV_ok x y e (k s.toks)) fun e => eqO_ok Y T R S x y e (k s.toks)
 | ne =>
  rw [cmInv_of ho]
  exact neV_ok x y e R (k s.toks)
 | lt =>
  rw [cmInv_of ho]
  refine invII e fun a b e1 e2 e => ?_
  obtain rfl := Option.some.inj e
  apply x.two e1 y e2
  exact fun t t' => lt_int (k s.toks)
 | le =>
  rw [cmInv_of ho]
  refine invII e fun a b e1 e2 e => ?_
  obtain rfl := Option.some.inj e
  apply x.two e1 y e2
  exact fun t t' => le_int (k s.toks)
 | gt =>
  rw [cmInv_of ho]
  refine invII e fun a b e1 e2 e => ?_
  obtain rfl := Option.some.inj e
  apply x.two e1 y e2
  exact fun t t' => gt_int (k s.toks)
 | ge =>
  rw [cmInv_of ho]
  refine invII e fun a b e1 e2 e => ?_
  obtain rfl := Option.some.inj e
  apply x.two e1 y e2
  exact fun t t' => ge_int (k s.toks)
 | is =>
  rw [cmInv_of ho]
  refine invC e fun h e => ?_
  obtain rfl := Option.some.inj e
  rw [isN_ok T y h]
  exact is_none (by rw [none_beq x T]; exact k s.toks)
 | isNot =>
  rw [cmInv_of ho]
  refine invC e fun h e => ?_
  obtain rfl := Option.some.inj e
  rw [isN_ok T y h]
  exact isNot_none (by rw [none_beq x T]; exact k s.toks)
 | in_ =>
  rw [cmInv_of ho]
  exact in_ok Y S x y e k
 | notIn =>
  rw [cmInv_of ho]
  exact notIn_ok S x y e (k s.toks)
end
end
end Mine
namespace Mine
section
open PySem PySem.W PyProof.Rows PySem.Calls
section
variable {ω : Gd} {φ φ' : List Lc} {H H₁ H₂ H₃ H' : MH} {h h' : Heap} {env : Env} {ρ : Loc} {r : Nat} {A : Around} {E : Value → Shared → Prop} {s : Shared} {z z₁ z₂ z₃ : V}
theorem VR.own {v : Value} (x : VR ω.K φ h v z) (S : St ω φ H h) (F : FrOk ω env φ ρ h) (s : Step φ (Mine.own env) h φ' h') : VR ω.K φ' h' v z := x.step S s F.notTup
theorem VR.ownAll {vs : List Value} {xs : List V} (x : All2 (VR ω.K φ h) vs xs) (S : St ω φ H h) (F : FrOk ω env φ ρ h) (s : Step φ (Mine.own env) h φ' h') : All2 (VR ω.K φ' h') vs xs := x.mono fun _ _ r => r.own S F s
theorem release_ok {M : Model} {vs keep : List Value} {Q : Unit → Shared → Prop} (k : Q () s) : wpAny M A (release vs keep) Q E s := fun Γ p _ => by rw [Sem.wp_release]; exact k
theorem base_of {o : Expr} {attr : Str} {env : Env} {whole : Sem Value} (hn : notCall o = true) : attributeBase o attr env whole = whole := by
 cases o <;> first | rfl | cases hn
theorem letTmp_ok {base : Expr} {o q : Value} {Q : Unit → Shared → Prop} (k : Q () s) : wpAny ω.m A (letTemporaryGo base o q) Q E s := wpAny_letTemporaryGo k
theorem E_attr (Y : Hy ω) (T : Tab ω.K) {e : Expr} {n : Nm} {pos : Pos} (hn : notCall e = true) (x : EOk ω r env ρ H (eval e env) z₁ H₁) (a : attrOf H₁ z₁ n = some z) : EOk ω r env ρ H (eval (.Attribute e n.str pos) env) z H₁ := fun A E s φ Q R S F k => by
 rw [arm_eval_Attribute, base_of hn]
 refine wpAny_bind (x A E s φ _ R S F fun v h' tk φ' s1 S1 F1 v1 => ?_)
 refine wpAny_bind (wpAny_standAt (wpAny_bind (wpAny_holding ?_)))
 refine attr_ok Y T S1 F1 v1 a fun u u1 => ?_
 exact wpAny_bind (letTmp_ok (wpAny_pure (k u h' _ φ' s1 S1 F1 u1)))
set_option backward.match.sparseCases false in
noncomputable def notSlice : Expr → Bool
 | .Slice .. => false
 | _ => true
theorem subscripted_of {sl : Expr} (hn : notSlice sl = true) (v u : Value) : subscripted sl false v u = operate [v, u] (getItem v u) := by
 cases sl <;> first | rfl | cases hn
theorem E_sub {e i : Expr} {pos : Pos} (hn : notSlice i = true) (x : EOk ω r env ρ H (eval e env) z₁ H₁) (y : EOk ω r env ρ H₁ (eval i env) z₂ H₂) (a : subOf H₂ z₁ z₂ = some z) : EOk ω r env ρ H (eval (.Subscript e i pos) env) z H₂ := fun A E s φ Q R S F k => by
 refine Subscript_ (x A E s φ _ R S F fun v h1 t1 φ1 s1 S1 F1 v1 => ?_)
 refine y A E _ φ1 _ R S1 F1 fun u h2 t2 φ2 s2 S2 F2 u2 => ?_
 exact sub_ok (s := ⟨h2, _, _, _, _⟩) S2 (v1.own S1 F1 s2) u2 a (subscripted_of hn v u) fun q tk q3 => k q h2 tk φ2 (s1.trans s2) S2 F2 q3
theorem E_bin {l q : Expr} {op : Operator} {o : Op} {pos : Pos} (ho : opOf op = some o) (x : EOk ω r env ρ H (eval l env) z₁ H₁) (y : EOk ω r env ρ H₁ (eval q env) z₂ H₂) (a : binV o z₁ z₂ H₂ = some (z, H')) : EOk ω r env ρ H (eval (.BinOp l op q pos) env) z H' := fun A E s φ Q R S F k => by
 refine wpAny_BinOp (x A E s φ _ R S F fun v h1 t1 φ1 s1 S1 F1 v1 => ?_)
 refine y A E _ φ1 _ R S1 F1 fun u h2 t2 φ2 s2 S2 F2 u2 => ?_
 exact bin_ok (s := ⟨h2, _, _, _, _⟩) ho S2 F2 (v1.own S1 F1 s2) u2 a fun q h3 tk φ3 s3 S3 F3 q3 => k q h3 tk φ3 ((s1.trans s2).trans s3) S3 F3 q3
set_option backward.match.sparseCases false in
noncomputable def notSet : Expr → Bool
 | .Set .. => false
 | _ => true
theorem marks_of {op : CmpOp} {e : Expr} (hn : notSet e = true) : behindInMarks op e = false := by
 cases e <;> first | rfl | cases hn
theorem E_cmp (Y : Hy ω) (T : Tab ω.K) {l q : Expr} {op : CmpOp} {o : Cm} {pos : Pos} {b : Bool} (hn : notSet q = true) (ho : cmOf op = some o) (x : EOk ω r env ρ H (eval l env) z₁ H₁) (y : EOk ω r env ρ H₁ (eval q env) z₂ H₂) (a : cmpV H₂ o z₁ z₂ = some b) : EOk ω r env ρ H (eval (.Compare l [op] [q] pos) env) (.bool b) H₂ := fun A E s φ Q R S F k => by
 refine wpAny_Compare1 (x A E s φ _ R S F fun v h1 t1 φ1 s1 S1 F1 v1 => ?_) (marks_of hn)
 refine y A E _ φ1 _ R S1 F1 fun u h2 t2 φ2 s2 S2 F2 u2 => ?_
 exact cmp_ok (s := ⟨h2, _, _, _, _⟩) Y T ho R S2 (v1.own S1 F1 s2) u2 a fun tk => k _ h2 tk φ2 (s1.trans s2) S2 F2 (.bool b)
theorem T_cmp (Y : Hy ω) (T : Tab ω.K) {l q : Expr} {op : CmpOp} {o : Cm} {pos : Pos} {b : Bool} {whole : Sem Value} (hn : notSet q = true) (ho : cmOf op = some o) (x : EOk ω r env ρ H (eval l env) z₁ H₁) (y : EOk ω r env ρ H₁ (eval q env) z₂ H₂) (a : cmpV H₂ o z₁ z₂ = some b) : TOk ω r env ρ H (isTrue (.Compare l [op] [q] pos) env whole) b H₂ := fun A E s φ Q R S F k => by
 refine wpAny_isTrue_Compare1 (x A E s φ _ R S F fun v h1 t1 φ1 s1 S1 F1 v1 => ?_) (marks_of hn)
 refine y A E _ φ1 _ R S1 F1 fun u h2 t2 φ2 s2 S2 F2 u2 => ?_
 exact cmp_ok (s := ⟨h2, _, _, _, _⟩) Y T ho R S2 (v1.own S1 F1 s2) u2 a fun tk => wpAny_truthy_bool (k h2 tk φ2 (s1.trans s2) S2 F2)
theorem lastMarks_of {o₁ o₂ : CmpOp} {a b : Expr} (hb : notSet b = true) : lastMarks [o₁, o₂] [a, b] = false := by
 show lastMarks [o₂] [b] = false
 exact marks_of hb
theorem E_cmp2 (Y : Hy ω) (T : Tab ω.K) {l q q' : Expr} {op op' : CmpOp} {o o' : Cm} {pos : Pos} {b b' : Bool} (hn : notSet q' = true) (ho : cmOf op = some o) (ho' : cmOf op' = some o') (x : EOk ω r env ρ H (eval l env) z₁ H₁) (y : EOk ω r env ρ H₁ (eval q env) z₂ H₂) (a : cmpV H₂ o z₁ z₂ = some b)
  (c : (b = false ∧ b' = false ∧ H₃ = H₂) ∨ (b = true ∧ EOk ω r env ρ H₂ (eval q' env) z₃ H₃ ∧ cmpV H₃ o' z₂ z₃ = some b')) : EOk ω r env ρ H (eval (.Compare l [op, op'] [q, q'] pos) env) (.bool b') H₃ := fun A E s φ Q R S F k => by
 refine Compare_chain (x A E s φ _ R S F fun v h1 t1 φ1 s1 S1 F1 v1 => ?_) (lastMarks_of hn)
 show wpAny _ _ (do
  let rv ← holding [v] (eval q env)
  standAt pos
  let c ← holding [v, rv] (compareOp op v rv)
  release [v, rv] [c]
  if ← holding [c, rv] (truthy c) then compareChain pos rv [op'] [eval q' env] else pure c) _ _ _
 refine wpAny_bind (wpAny_holding (y A E _ φ1 _ R S1 F1 fun u h2 t2 φ2 s2 S2 F2 u2 => ?_))
 refine wpAny_bind (wpAny_standAt (wpAny_bind (wpAny_holding (cmp_ok (s := ⟨h2, _, _, _, _⟩) Y T ho R S2 (v1.own S1 F1 s2) u2 a fun tk => ?_))))
 refine wpAny_bind (release_ok (wpAny_bind (wpAny_holding (wpAny_truthy_bool ?_))))
 rcases c with ⟨rfl, rfl, rfl⟩ | ⟨rfl, y3, a3⟩
 ·simp only [Bool.false_eq_true, if_false]
  exact wpAny_pure (k _ h2 _ φ2 (s1.trans s2) S2 F2 (.bool _))
 ·simp only [if_true]
  rw [compareChain]
  refine wpAny_bind (wpAny_holding (y3 A E _ φ2 _ R S2 F2 fun q h3 t3 φ3 s3 S3 F3 q3 => ?_))
  refine wpAny_bind (wpAny_standAt ?_)
  show wpAny _ _ (operate _ _) _ _ _
  unfold operate
  refine wpAny_bind (wpAny_holding (cmp_ok (s := ⟨h3, _, _, _, _⟩) Y T ho' R S3 (u2.own S2 F2 s3) q3 a3 fun tk => ?_))
  exact wpAny_bind (release_ok (wpAny_pure (k _ h3 tk φ3 ((s1.trans s2).trans s3) S3 F3 (.bool _))))
theorem T_of_E {e : Expr} {b : Bool} (x : EOk ω r env ρ H (eval e env) (.bool b) H₁) (he : isTrue e env (eval e env) = (do let v ← eval e env; standAt e.pos; holding [v] (truthy v))) : TOk ω r env ρ H (isTrue e env (eval e env)) b H₁ := fun A E s φ Q R S F k => by
 rw [he]
 refine wpAny_bind (x A E s φ _ R S F fun v h1 t1 φ1 s1 S1 F1 v1 => ?_)
 cases v1
 exact wpAny_bind (wpAny_standAt (wpAny_holding (wpAny_truthy_bool (k h1 t1 φ1 s1 S1 F1))))
theorem T_cmp2 (Y : Hy ω) (T : Tab ω.K) {l q q' : Expr} {op op' : CmpOp} {o o' : Cm} {pos : Pos} {b b' : Bool} {whole : Sem Value} (hn : notSet q' = true) (ho : cmOf op = some o) (ho' : cmOf op' = some o') (x : EOk ω r env ρ H (eval l env) z₁ H₁) (y : EOk ω r env ρ H₁ (eval q env) z₂ H₂) (a : cmpV H₂ o z₁ z₂ = some b)
  (c : (b = false ∧ b' = false ∧ H₃ = H₂) ∨ (b = true ∧ EOk ω r env ρ H₂ (eval q' env) z₃ H₃ ∧ cmpV H₃ o' z₂ z₃ = some b')) : TOk ω r env ρ H (isTrue (.Compare l [op, op'] [q, q'] pos) env whole) b' H₃ := fun A E s φ Q R S F k => by
 refine isTrue_chain (x A E s φ _ R S F fun v h1 t1 φ1 s1 S1 F1 v1 => ?_) (lastMarks_of hn)
 show wpAny _ _ (do
  let rv ← holding [v] (eval q env)
  standAt pos
  let c ← holding [v, rv] (compareOp op v rv)
  release [v, rv] [c]
  if ← holding [c, rv] (truthy c) then testChain pos rv [op'] [eval q' env] else pure false) _ _ _
 refine wpAny_bind (wpAny_holding (y A E _ φ1 _ R S1 F1 fun u h2 t2 φ2 s2 S2 F2 u2 => ?_))
 refine wpAny_bind (wpAny_standAt (wpAny_bind (wpAny_holding (cmp_ok (s := ⟨h2, _, _, _, _⟩) Y T ho R S2 (v1.own S1 F1 s2) u2 a fun tk => ?_))))
 refine wpAny_bind (release_ok (wpAny_bind (wpAny_holding (wpAny_truthy_bool ?_))))
 rcases c with ⟨rfl, rfl, rfl⟩ | ⟨rfl, y3, a3⟩
 ·simp only [Bool.false_eq_true, if_false]
  exact wpAny_pure (k h2 _ φ2 (s1.trans s2) S2 F2)
 ·simp only [if_true]
  rw [testChain]
  refine wpAny_bind (wpAny_holding (y3 A E _ φ2 _ R S2 F2 fun q h3 t3 φ3 s3 S3 F3 q3 => ?_))
  refine wpAny_bind (wpAny_standAt ?_)
  unfold operate
  refine wpAny_bind (wpAny_bind (wpAny_holding (cmp_ok (s := ⟨h3, _, _, _, _⟩) Y T ho' R S3 (u2.own S2 F2 s3) q3 a3 fun tk => ?_)))
  exact wpAny_bind (release_ok (wpAny_pure (wpAny_holding (wpAny_truthy_bool (k h3 tk φ3 ((s1.trans s2).trans s3) S3 F3)))))
end
end
end Mine
namespace Mine
section
open PySem PySem.W PyProof.Rows PySem.Calls
section
variable {ω : Gd} {φ φ' : List Lc} {H H₁ H₂ H₃ H' : MH} {h h' : Heap} {env : Env} {ρ : Loc} {r : Nat} {A : Around} {E : Value → Shared → Prop} {s : Shared} {z z₁ z₂ z₃ : V}
set_option backward.match.sparseCases false in
noncomputable def notStar : Expr → Bool
 | .Starred .. => false
 | _ => true
theorem starEach_of {e : Expr} {rest : List Expr} (hn : notStar e = true) : starEach (e :: rest) env = (false, eval e env) :: starEach rest env := by
 cases e <;> first | rfl | cases hn
theorem L_nil {pos : Pos} : LOk ω r env ρ H (spliced (backTo pos (starEach [] env))) [] H := fun A E s φ Q R S F k => by
 exact (wpAny_pure (k [] s.heap s.toks φ .refl S F .nil) : wpAny _ _ (pure []) _ _ _)
theorem L_cons {e : Expr} {rest : List Expr} {pos : Pos} {l : List V} (hn : notStar e = true) (x : EOk ω r env ρ H (eval e env) z₁ H₁) (y : LOk ω r env ρ H₁ (spliced (backTo pos (starEach rest env))) l H₂) : LOk ω r env ρ H (spliced (backTo pos (starEach (e :: rest) env))) (z₁ :: l) H₂ := fun A E s φ Q R S F k => by
 rw [starEach_of hn]
 show wpAny _ _ (spliced ((false, eval e env) :: backTo pos (starEach rest env))) _ _ _
 refine spliced_cons (x A E s φ _ R S F fun v h1 t1 φ1 s1 S1 F1 v1 => ?_)
 exact y A E _ φ1 _ R S1 F1 fun vs h2 t2 φ2 s2 S2 F2 v2 => k _ h2 t2 φ2 (s1.trans s2) S2 F2 (.cons (v1.own S1 F1 s2) v2)
theorem push_keep (h : Heap) (o : Obj) : ∀ a x, h.get? a = some x → (h.push o).get? a = some x := fun _ _ e => Heap.get?_push_of_some _ e
theorem push_le (h : Heap) (o : Obj) : h.objs.size ≤ (h.push o).objs.size := by rw [Heap.size_push]; exact Nat.le_succ _
theorem IsTup.push {x : Addr} {its : Array Value} (t : IsTup h x its) (o : Obj) : IsTup (h.push o) x its := by obtain ⟨y, e, z⟩ := t; exact ⟨y, push_keep h o _ _ e, z⟩
theorem E_pair {a b : Expr} {n : Nat} {pos : Pos} (ha : notStar a = true) (hb' : notStar b = true) (x : EOk ω r env ρ H (eval a env) z₁ H₁) (y : EOk ω r env ρ H₁ (eval b env) z₂ H₂) : EOk ω r env ρ H (eval (.Tuple [a, b] n pos) env) (.pair z₁ z₂) H₂ := fun A E s φ Q R S F k => by
 refine Tuple_ (L_cons ha x (L_cons hb' y L_nil) A E s φ _ R S F fun vs h1 t1 φ1 s1 S1 F1 v1 => ?_)
 cases v1 with
 | cons va v1 => cases v1 with
  | cons vb v1 => cases v1 with
   | nil =>
    rename_i ua ub
    refine wpAny_newTuple ?_ (by rw [sizeLine_eq]; simp)
    have G := Step.grow (φ := φ1) (push_keep h1 { cls := .type "tuple", data := .seq #[ua, ub] }) (push_le _ _)
    refine k _ _ _ φ1 (s1.trans G.wide) (S1.grow (push_keep _ _) (push_le _ _)) (F1.step S1 G) (.pair ⟨_, Heap.get?_push_size _ rfl, rfl, _, rfl⟩ ?_ ?_)
    ·exact va.step S1 G (fun _ m => nomatch m)
    ·exact vb.step S1 G (fun _ m => nomatch m)
theorem E_list {es : List Expr} {pos : Pos} {l : List V} (x : LOk ω r env ρ H (spliced (backTo pos (starEach es env))) l H₁) (hl : l.length ≤ 100) : EOk ω r env ρ H (eval (.List es pos) env) (.obj H₁.length) (H₁ ++ [.list l]) := fun A E s φ Q R S F k => by
 refine List_ (x A E s φ _ R S F fun vs h1 t1 φ1 s1 S1 F1 v1 => ?_)
 refine wpAny_newList ?_ (by rw [sizeLine_eq]; have := v1.length; omega)
 obtain ⟨S2, s2⟩ := allocX (X := []) (l := ⟨h1.objs.size, h1.objs.size, 0⟩) (o := .list l) S1 .nil (fun a o e _ => push_keep h1 { cls := .type "list", data := .seq vs.toArray } a o e) (push_le _ _)
  (fun t => ⟨rfl, 0, vs.toArray, Heap.get?_push_size _ rfl, by simpa using v1.mono fun _ _ z => t _ _ z, by omega⟩) (Nat.le_refl _) (Nat.le_refl _)
 refine k _ _ _ _ (s1.trans s2.wide) S2 (F1.step S1 s2) ?_
 have : (φ1 ++ [(⟨h1.objs.size, h1.objs.size, 0⟩ : Lc)])[H₁.length]? = some ⟨h1.objs.size, h1.objs.size, 0⟩ := by rw [← S1.len]; simp
 exact .obj this
theorem strOf_eq {c : Expr} {n : Nm} (h : strOf c = some n) : ∃ k p, c = .Constant (.str n.str) k p := of_map (o := strP c) h
theorem strs_ok {pos : Pos} : ∀ {es : List Expr} {ss : List Nm}, strsOf es = some ss → ∀ {A : Around} {E : Value → Shared → Prop} {s : Shared} {Q : List Value → Shared → Prop}, (∀ vs tk, All2 (fun v (n : Nm) => ∃ t, v = .str n.str t) vs ss → Q vs { s with toks := tk }) → wpAny ω.m A (spliced (backTo pos (starEach es env))) Q E s
 | [], ss, e, A, E, s, Q, k => by
  cases e
  exact (wpAny_pure (k [] s.toks .nil) : wpAny _ _ (pure []) _ _ _)
 | c :: es, ss, e, A, E, s, Q, k => by
  unfold strsOf at e
  split at e
  ·rename_i n l hn hl
   cases e
   refine hide fun Ψ kΨ => ?_
   obtain ⟨_, _, rfl⟩ := strOf_eq hn
   refine kΨ ?_
   show wpAny _ _ (spliced ((false, eval _ env) :: backTo pos (starEach es env))) _ _ _
   refine spliced_cons ?_
   show wpAny _ _ (mkText n.str) _ _ _
   refine wpAny_mkText ?_
   refine strs_ok hl fun vs tk v => ?_
   exact k _ tk (.cons ⟨_, rfl⟩ v)
  ·cases e
theorem mem_any (n : Nm) (x : Nm) {vs : List Value} {ss : List Nm} (a : All2 (fun v (n : Nm) => ∃ t, v = .str n.str t) vs ss) : (vs.any fun y => match y with | .str q _ => q == n.str | _ => false) = decide (n ∈ ss) := by
 induction a with
 | nil => rfl
 | cons a _ ih =>
  obtain ⟨t, rfl⟩ := a
  rename_i b _ _ _
  rw [List.any_cons, ih]
  dsimp only
  rw [str_beq]
  by_cases q : b = n
  ·subst q; simp
  ·have : n ≠ b := fun e => q e.symm
   simp [q, this]
theorem inC_ok {op : CmpOp} {neg : Bool} (hop : (op = .In ∧ neg = false) ∨ (op = .NotIn ∧ neg = true)) {es : List Expr} {ss : List Nm} {n : Nm} {kk : Nat} {pos : Pos} {v : Value} (hs : strsOf es = some ss) (hl : ss.length ≤ 100) (S : St ω φ H s.heap) (F : FrOk ω env φ ρ s.heap) (x : VR ω.K φ s.heap v (.str n)) {Q : Value → Shared → Prop}
  (k : ∀ h' tk, Step φ [] s.heap φ h' → St ω φ H h' → FrOk ω env φ ρ h' → Q (.bool (neg.xor (decide (n ∈ ss)))) { s with heap := h', toks := tk }) :
  wpAny ω.m A (eval (.Tuple es kk pos) env) (fun u s₂ => wpAny ω.m A (compareOp op v u) Q E s₂) E s := by
 cases x with
 | str _ tk0 =>
  refine Tuple_ (strs_ok hs fun vs tk a => ?_)
  refine wpAny_newTuple ?_ (by rw [sizeLine_eq]; have := a.length; omega)
  have G := Step.grow (φ := φ) (push_keep s.heap { cls := .type "tuple", data := .seq vs.toArray }) (push_le _ _)
  have kk := k (s.heap.push { cls := .type "tuple", data := .seq vs.toArray }) tk G (S.grow (push_keep _ _) (push_le _ _)) (F.step S G)
  have ht : (s.heap.push { cls := .type "tuple", data := .seq vs.toArray }).IsTuple s.heap.objs.size vs.toArray := ⟨_, Heap.get?_push_size _ rfl, rfl, _, rfl⟩
  have hy : ∀ (s' : Shared) (y : Value), y ∈ vs.toArray → PySem.SeqAt.EqAt A.in1 s' y (.str n.str tk0) ((fun y : Value => match y with | .str q _ => q == n.str | _ => false) y) := fun s' y my => by
   have my : y ∈ vs := by simpa using my
   refine hide fun Ψ kΨ => ?_
   obtain ⟨i, hi⟩ := List.getElem?_of_mem my
   obtain ⟨b, _, t, rfl⟩ := a.getl hi
   refine kΨ ?_
   exact PySem.SeqAt.EqAt.str_str _ _ _ _
  rcases hop with ⟨rfl, rfl⟩ | ⟨rfl, rfl⟩
  ·refine PySem.SeqAt.in_tupleAt _ ht (hy _) ?_
   rw [← Array.any_toList, mem_any n n a]
   simpa using kk
  ·refine PySem.SeqAt.notIn_tupleAt _ ht (hy _) ?_
   rw [← Array.any_toList, mem_any n n a]
   simpa using kk
theorem E_inC {l : Expr} {op : CmpOp} {neg : Bool} (hop : (op = .In ∧ neg = false) ∨ (op = .NotIn ∧ neg = true)) {es : List Expr} {ss : List Nm} {n : Nm} {kk : Nat} {pos pos' : Pos} (hs : strsOf es = some ss) (hl : ss.length ≤ 100) (x : EOk ω r env ρ H (eval l env) (.str n) H₁) : EOk ω r env ρ H (eval (.Compare l [op] [.Tuple es kk pos'] pos) env) (.bool (neg.xor (decide (n ∈ ss)))) H₁ := fun A E s φ Q R S F k => by
 refine wpAny_Compare1 (x A E s φ _ R S F fun v h1 t1 φ1 s1 S1 F1 v1 => ?_) rfl
 exact inC_ok (s := ⟨h1, _, _, _, _⟩) hop hs hl S1 F1 v1 fun h2 tk s2 S2 F2 => k _ h2 tk φ1 (s1.trans s2.wide) S2 F2 (.bool _)
theorem T_inC {l : Expr} {op : CmpOp} {neg : Bool} (hop : (op = .In ∧ neg = false) ∨ (op = .NotIn ∧ neg = true)) {es : List Expr} {ss : List Nm} {n : Nm} {kk : Nat} {pos pos' : Pos} {whole : Sem Value} (hs : strsOf es = some ss) (hl : ss.length ≤ 100) (x : EOk ω r env ρ H (eval l env) (.str n) H₁) : TOk ω r env ρ H (isTrue (.Compare l [op] [.Tuple es kk pos'] pos) env whole) (neg.xor (decide (n ∈ ss))) H₁ := fun A E s φ Q R S F k => by
 refine wpAny_isTrue_Compare1 (x A E s φ _ R S F fun v h1 t1 φ1 s1 S1 F1 v1 => ?_) rfl
 exact inC_ok (s := ⟨h1, _, _, _, _⟩) hop hs hl S1 F1 v1 fun h2 tk s2 S2 F2 => wpAny_truthy_bool (k h2 tk φ1 (s1.trans s2.wide) S2 F2)
theorem E_not {e : Expr} {pos : Pos} {b : Bool} (x : EOk ω r env ρ H (eval e env) (.bool b) H₁) : EOk ω r env ρ H (eval (.UnaryOp .Not e pos) env) (.bool !b) H₁ := fun A E s φ Q R S F k => by
 refine wpAny_UnaryOp (x A E s φ _ R S F fun v h1 t1 φ1 s1 S1 F1 v1 => ?_)
 cases v1
 exact not_of (wpAny_truthy_bool (k _ h1 t1 φ1 s1 S1 F1 (.bool _)))
theorem T_not {e : Expr} {pos : Pos} {b : Bool} {whole : Sem Value} (x : TOk ω r env ρ H (isTrue e env (eval e env)) b H₁) : TOk ω r env ρ H (isTrue (.UnaryOp .Not e pos) env whole) (!b) H₁ := fun A E s φ Q R S F k =>
 isTrue_not (x A E s φ _ R S F fun h1 t1 φ1 s1 S1 F1 => k h1 t1 φ1 s1 S1 F1)
theorem E_usub {i : Int} {n : Nat} {p pos : Pos} : EOk ω r env ρ H (eval (.UnaryOp .USub (.Constant (.int i) n p) pos) env) (.int (-i)) H := fun A E s φ Q R S F k => by
 refine wpAny_UnaryOp (wpAny_Constant_int ?_)
 exact neg_int (k _ s.heap _ φ .refl S F (.int _ _))
theorem E_ite {t b o : Expr} {pos : Pos} {c : Bool} (x : TOk ω r env ρ H (isTrue t env (eval t env)) c H₁) (y : if c = true then EOk ω r env ρ H₁ (eval b env) z H₂ else EOk ω r env ρ H₁ (eval o env) z H₂) : EOk ω r env ρ H (eval (.IfExp t b o pos) env) z H₂ := fun A E s φ Q R S F k => by
 refine wpAny_IfExp (x A E s φ _ R S F fun h1 t1 φ1 s1 S1 F1 => ?_)
 cases c
 ·exact y A E _ φ1 _ R S1 F1 fun v h2 t2 φ2 s2 S2 F2 v2 => k v h2 t2 φ2 (s1.trans s2) S2 F2 v2
 ·exact y A E _ φ1 _ R S1 F1 fun v h2 t2 φ2 s2 S2 F2 v2 => k v h2 t2 φ2 (s1.trans s2) S2 F2 v2
theorem T_ite {t b o : Expr} {pos : Pos} {c d : Bool} {whole : Sem Value} (x : TOk ω r env ρ H (isTrue t env (eval t env)) c H₁) (y : if c = true then TOk ω r env ρ H₁ (isTrue b env (eval b env)) d H₂ else TOk ω r env ρ H₁ (isTrue o env (eval o env)) d H₂) : TOk ω r env ρ H (isTrue (.IfExp t b o pos) env whole) d H₂ := fun A E s φ Q R S F k => by
 refine isTrue_IfExp (x A E s φ _ R S F fun h1 t1 φ1 s1 S1 F1 => ?_)
 cases c
 ·exact y A E _ φ1 _ R S1 F1 fun h2 t2 φ2 s2 S2 F2 => k h2 t2 φ2 (s1.trans s2) S2 F2
 ·exact y A E _ φ1 _ R S1 F1 fun h2 t2 φ2 s2 S2 F2 => k h2 t2 φ2 (s1.trans s2) S2 F2
theorem B_cons {pos : Pos} {op : BoolOp} {t u : Sem Value} {rest : List (Sem Value)} {b : Bool} (x : EOk ω r env ρ H t (.bool b) H₁) (y : if b = (op == .And) then EOk ω r env ρ H₁ (boolOp pos op (u :: rest)) z H₂ else z = .bool b ∧ H₂ = H₁) : EOk ω r env ρ H (boolOp pos op (t :: u :: rest)) z H₂ := fun A E s φ Q R S F k => by
 show wpAny _ _ (do
  let v ← t
  standAt pos
  let tt ← holding [v] (truthy v)
  match op, tt with
  | .And, false | .Or, true => pure v
  | _, _ => boolOp pos op (u :: rest)) _ _ _
 refine wpAny_bind (x A E s φ _ R S F fun v h1 t1 φ1 s1 S1 F1 v1 => ?_)
 cases v1
 refine wpAny_bind (wpAny_standAt (wpAny_bind (wpAny_holding (wpAny_truthy_bool ?_))))
 cases op <;> cases b
 ·obtain ⟨rfl, rfl⟩ := y
  exact wpAny_pure (k _ h1 t1 φ1 s1 S1 F1 (.bool _))
 ·exact y A E _ φ1 _ R S1 F1 fun v h2 t2 φ2 s2 S2 F2 v2 => k v h2 t2 φ2 (s1.trans s2) S2 F2 v2
 ·exact y A E _ φ1 _ R S1 F1 fun v h2 t2 φ2 s2 S2 F2 v2 => k v h2 t2 φ2 (s1.trans s2) S2 F2 v2
 ·obtain ⟨rfl, rfl⟩ := y
  exact wpAny_pure (k _ h1 t1 φ1 s1 S1 F1 (.bool _))
theorem A_one {op : BoolOp} {e : Expr} {b : Bool} (x : TOk ω r env ρ H (isTrue e env (eval e env)) b H₁) : TOk ω r env ρ H (allTrue op [e] env) b H₁ := fun A E s φ Q R S F k => by
 show wpAny _ _ (do
  match op, ← isTrue e env (eval e env) with
  | .And, false => pure false
  | .Or, true => pure true
  | _, _ => allTrue op [] env) _ _ _
 refine wpAny_bind (x A E s φ _ R S F fun h1 t1 φ1 s1 S1 F1 => ?_)
 cases op <;> cases b <;> exact wpAny_pure (k h1 t1 φ1 s1 S1 F1)
theorem A_cons {op : BoolOp} {e : Expr} {rest : List Expr} {b c : Bool} (x : TOk ω r env ρ H (isTrue e env (eval e env)) b H₁) (y : if b = (op == .And) then TOk ω r env ρ H₁ (allTrue op rest env) c H₂ else c = b ∧ H₂ = H₁) : TOk ω r env ρ H (allTrue op (e :: rest) env) c H₂ := fun A E s φ Q R S F k => by
 show wpAny _ _ (do
  match op, ← isTrue e env (eval e env) with
  | .And, false => pure false
  | .Or, true => pure true
  | _, _ => allTrue op rest env) _ _ _
 refine wpAny_bind (x A E s φ _ R S F fun h1 t1 φ1 s1 S1 F1 => ?_)
 cases op <;> cases b
 ·obtain ⟨rfl, rfl⟩ := y
  exact wpAny_pure (k h1 t1 φ1 s1 S1 F1)
 ·exact y A E _ φ1 _ R S1 F1 fun h2 t2 φ2 s2 S2 F2 => k h2 t2 φ2 (s1.trans s2) S2 F2
 ·exact y A E _ φ1 _ R S1 F1 fun h2 t2 φ2 s2 S2 F2 => k h2 t2 φ2 (s1.trans s2) S2 F2
 ·obtain ⟨rfl, rfl⟩ := y
  exact wpAny_pure (k h1 t1 φ1 s1 S1 F1)
end
end
end Mine
namespace Mine
section
open PySem PySem.W PyProof.Rows PySem.Calls
section
variable {ω : Gd} {φ φ' : List Lc} {H H₁ H₂ H₃ H' : MH} {h h' : Heap} {env : Env} {ρ : Loc} {r : Nat} {A : Around} {E : Value → Shared → Prop} {s : Shared} {z z₁ z₂ z₃ : V} {cf : CF}
noncomputable def allPlain : List Expr → Bool
 | [] => true
 | e :: r => notStar e && allPlain r
theorem any_star {pos : Pos} : ∀ {es : List Expr}, allPlain es = true → (backTo pos (starEach es env)).any (·.1) = false
 | [], _ => rfl
 | e :: r, h => by
  unfold allPlain at h
  rw [Bool.and_eq_true] at h
  rw [starEach_of h.1]
  show (false || (backTo pos (starEach r env)).any (·.1)) = false
  rw [any_star h.2]; rfl
theorem star_len {pos : Pos} : ∀ {es : List Expr}, allPlain es = true → (backTo pos (starEach es env)).all (fun x => !x.1) = true
 | [], _ => rfl
 | e :: r, h => by
  unfold allPlain at h
  rw [Bool.and_eq_true] at h
  rw [starEach_of h.1]
  show (!false && (backTo pos (starEach r env)).all (fun x => !x.1)) = true
  rw [star_len h.2]; rfl
theorem evalArgs_ok {f : Value} {pos : Pos} {es : List Expr} {Q : Args → Shared → Prop} (hp : allPlain es = true) (k : wpAny ω.m A (spliced (backTo pos (starEach es env))) (fun vs s' => Q ⟨vs, []⟩ s') E s) : wpAny ω.m A (evalArgs f true (backTo pos (starEach es env)) []) Q E s := by
 cases es with
 | nil =>
  exact fun Γ p hΓ => evalArgs_nil3 (Q := Q) (by have := k Γ p hΓ; exact this) Γ p hΓ
 | cons e r =>
  unfold allPlain at hp
  rw [Bool.and_eq_true] at hp
  rw [starEach_of hp.1] at k ⊢
  exact evalArgs_plain k
theorem callWith_ok {f : Value} {first : List Value} {pos : Pos} {es : List Expr} {Q : Value → Shared → Prop} (hp : allPlain es = true) (hk : keepIn ω.K f = true ∨ (∃ i, f = .builtin i) ∨ ∃ i, f = .type i)
  (k : wpAny ω.m A (spliced (backTo pos (starEach es env))) (fun vs s₁ => ω.K.In s₁.heap ∧ wpAny ω.m A (call f (first ++ vs)) Q E s₁) E s) :
  wpAny ω.m A (callWith pos f first (backTo pos (starEach es env)) []) Q E s := by
 refine callWith_of (P := fun h => ω.K.In h) (by rw [any_star hp]; rfl) ?_ (evalArgs_ok hp k)
 intro h X
 rcases hk with hk | ⟨i, rfl⟩ | ⟨i, rfl⟩
 ·exact keeps_K hk h X
 ·exact ⟨.machine, .inr (.inl rfl), Looks.of_pure rfl⟩
 ·exact ⟨.machine, .inr (.inl rfl), Looks.of_pure rfl⟩
theorem eval_call {f : Expr} {es : List Expr} {pos : Pos} (hn : notAttr f = true) : eval (.Call f es [] pos) env = (do callWith pos (← eval f env) [] (backTo pos (starEach es env)) []) := by
 cases f <;> first | rfl | cases hn
theorem E_call (Y : Hy ω) (C : COk ω r cf) {f : Expr} {es : List Expr} {pos : Pos} {l : List V} (hn : notAttr f = true) (hp : allPlain es = true) (x : EOk ω r env ρ H (eval f env) z₁ H₁) (y : LOk ω r env ρ H₁ (spliced (backTo pos (starEach es env))) l H₂) (c : cf z₁ l H₂ = some (z, H₃)) : EOk ω r env ρ H (eval (.Call f es [] pos) env) z H₃ := fun A E s φ Q R S F k => by
 rw [eval_call hn]
 refine wpAny_bind (x A E s φ _ R S F fun v h1 t1 φ1 s1 S1 F1 v1 => ?_)
 refine callWith_ok (ω := ω) hp (C.keep _ _ _ _ _ c _ _ _ v1) (y A E _ φ1 _ R S1 F1 fun vs h2 t2 φ2 s2 S2 F2 v2 => ⟨S2.kin Y, ?_⟩)
 exact C.run _ _ _ _ _ c A E _ φ2 v _ Q R S2 (v1.own S1 F1 s2) v2 fun q h3 t3 φ3 s3 S3 q3 => k q h3 t3 φ3 ((s1.trans s2).trans s3.wide) S3 (F2.step S2 s3) q3
noncomputable def lmName (n : Nm) : String := if n = .k_append then "list.append" else if n = .k_pop then "list.pop" else "list.insert"
theorem St.turnL (S : St ω φ H s.heap) {i : Nat} {l : Lc} {n' : Nat} {its' : Array Value} {ys : List V} (hl : φ[i]? = some l) (e1 : l.d = l.a) (hs : Heap.SameBut l.a s.heap h') (ho : h'.get? l.a = some (listOf its' n')) (a : (∀ v x, VR ω.K φ s.heap v x → VR ω.K φ h' v x) → All2 (VR ω.K φ h') its'.toList ys) (hz : ys.length ≤ 1000000) :
  St ω φ (H.set i (.list ys)) h' ∧ Step φ [] s.heap φ h' :=
 turnX (X := []) (o := .list ys) S .nil hl (fun a o ea n _ => (hs.2 a (e1 ▸ n)).trans ea) (by rw [hs.1]; exact Nat.le_refl _) (fun t ka => ⟨e1, _, _, ho, a t, hz⟩)
theorem append_ok {i : Nat} {l : Lc} {vs : List Value} {xs ys : List V} {v0 : V} {Q : Value → Shared → Prop} (hl : φ[i]? = some l) (S : St ω φ H s.heap) (hi : H[i]? = some (.list ys)) (a : All2 (VR ω.K φ s.heap) vs xs) (e : xs = [v0]) (hc : ys.length < 100000)
  (k : ∀ v h' tk, Step φ [] s.heap φ h' → St ω φ (H.set i (.list (ys ++ [v0]))) h' → VR ω.K φ h' v .none → Q v { s with heap := h', toks := tk }) :
  wpAny ω.m A (call (.builtin "list.append") (.ref l.a :: vs)) Q E s := by
 apply a.oOne e
 refine fun a a1 => S.lst hl hi fun e1 cnt its e2 e3 e4 hz => append_at e2 (fun h' hs ho => ?_) (by rw [sizeLine_eq]; omega)
 obtain ⟨S', s'⟩ := S.turnL (ys := ys ++ [v0]) hl e1 hs ho (fun t => by
  rw [Array.toList_push]; exact (e3.mono fun _ _ z => t _ _ z).append (.cons (t _ _ a1) .nil)) (by rw [List.length_append, List.length_singleton]; omega)
 exact k _ h' _ s' S' .none
theorem pop_ok {i : Nat} {l : Lc} {vs : List Value} {xs ys : List V} {Q : Value → Shared → Prop} (hl : φ[i]? = some l) (S : St ω φ H s.heap) (hi : H[i]? = some (.list ys)) (a : All2 (VR ω.K φ s.heap) vs xs) (e : xs = []) (hv : ys.getLast? = some z)
  (k : ∀ v h' tk, Step φ [] s.heap φ h' → St ω φ (H.set i (.list ys.dropLast)) h' → VR ω.K φ h' v z → Q v { s with heap := h', toks := tk }) :
  wpAny ω.m A (call (.builtin "list.pop") (.ref l.a :: vs)) Q E s := by
 apply a.oNil e
 refine S.lst hl hi fun e1 cnt its e2 e3 e4 hz => ?_
 have hp : 0 < ys.length := List.length_pos_iff.mpr fun q => by subst q; cases hv
 refine hide fun Ψ kΨ => ?_
 obtain ⟨u, u1, u2⟩ := e3.get (List.getLast?_eq_getElem? ▸ hv)
 refine kΨ ?_
 refine Copied.pop_at e2 (y := u) (by rw [hz, ← Array.getElem?_toList]; exact u1) (fun h' hs ho => ?_) (by rw [sizeLine_eq]; omega)
 obtain ⟨S', s'⟩ := S.turnL (ys := ys.dropLast) hl e1 hs ho (fun t => by
  rw [Array.toList_pop]; exact (e3.mono fun _ _ z => t _ _ z).dropLast) (by rw [List.length_dropLast]; omega)
 exact k _ h' _ s' S' (u2.step S s' (fun _ m => nomatch m))
theorem insert_ok {i : Nat} {l : Lc} {vs : List Value} {xs ys : List V} {v0 k0 : V} {Q : Value → Shared → Prop} (hl : φ[i]? = some l) (S : St ω φ H s.heap) (hi : H[i]? = some (.list ys)) (a : All2 (VR ω.K φ s.heap) vs xs) (e : xs = [k0, v0]) (ek : k0 = .int 0) (hc : ys.length < 100000)
  (k : ∀ v h' tk, Step φ [] s.heap φ h' → St ω φ (H.set i (.list (v0 :: ys))) h' → VR ω.K φ h' v .none → Q v { s with heap := h', toks := tk }) :
  wpAny ω.m A (call (.builtin "list.insert") (.ref l.a :: vs)) Q E s := by
 apply a.oTwo e
 intro a1 a2 x1 x2
 apply x1.oInt ek
 refine fun tk => S.lst hl hi fun e1 cnt its e2 e3 e4 hz => ?_
 refine call_meets PySem.F.slot_list_insert ⟨_, e2, rfl⟩ PySem.F.entry_list_insert (PySem.F.args_list_insert_3 _ _ _) (AutoSeq1.list_insert_list_int_val_1 l.a its cnt 0 tk a2 (by decide) (by rw [sizeLine_eq]; omega)) ⟨e2, ?_⟩
 obtain ⟨S', s'⟩ := S.turnL (ys := v0 :: ys) hl e1 (Heap.SameBut.update s.heap l.a (Obj.mapSeq fun xs : Array Value =>
  have k := if (0 : Int) < 0 then ((0 : Int) + xs.size).toNat else min (Int.toNat 0) xs.size
  (xs.extract 0 k).push a2 ++ xs.extract k)) (Heap.get?_update_self _ e2 rfl) (fun t => by
   have : (((its.extract 0 (if (0 : Int) < 0 then ((0 : Int) + its.size).toNat else min (Int.toNat 0) its.size)).push a2 ++ its.extract (if (0 : Int) < 0 then ((0 : Int) + its.size).toNat else min (Int.toNat 0) its.size))).toList = a2 :: its.toList := by simp
   rw [this]
   exact .cons (t _ _ x2) (e3.mono fun _ _ z => t _ _ z)) (by rw [List.length_cons]; omega)
 exact k _ _ s.toks s' S' .none
theorem listM_ok {i : Nat} {l : Lc} {n : Nm} {vs : List Value} {xs : List V} {Q : Value → Shared → Prop} (hl : φ[i]? = some l) (S : St ω φ H s.heap) (a : All2 (VR ω.K φ s.heap) vs xs) (e : listM i n xs H = some (z, H'))
  (k : ∀ v h' tk, Step φ [] s.heap φ h' → St ω φ H' h' → VR ω.K φ h' v z → Q v { s with heap := h', toks := tk }) :
  wpAny ω.m A (call (.builtin (lmName n)) (.ref l.a :: vs)) Q E s := by
 refine inv1 e fun o ho e => invoL e fun ys e3 e => invX e (fun hn e => inv_one e fun v0 ev e => invC e fun hc e => ?_) fun _ e => invX e (fun hn e => inv_nil e fun ev e => inv1 e fun v0 hv e => ?_) fun _ e => invC e fun hn e => inv_two e fun k0 v0 ev e => invI e fun k1 ek e => invC e fun hc e => ?_
 ·cases e; subst hn
  exact append_ok hl S (e3 ▸ ho) a ev hc k
 ·cases e; subst hn
  exact pop_ok hl S (e3 ▸ ho) a ev hv k
 ·cases e; subst hn
  exact insert_ok hl S (e3 ▸ ho) a ev (hc.1 ▸ ek) hc.2 k
end
end
end Mine
namespace Mine
section
open PySem PySem.W PyProof.Rows PySem.Calls
section
variable {ω : Gd} {φ φ' : List Lc} {H H₁ H₂ H₃ H' : MH} {h h' : Heap} {env : Env} {ρ : Loc} {r : Nat} {A : Around} {E : Value → Shared → Prop} {s : Shared} {z z₁ z₂ z₃ : V} {cf : CF}
theorem getL_none {es : List DictEntry} {fs : List (Nm × V)} {n : Nm} (x : All2 (FE ω φ h) es fs) (hn : ∀ p ∈ fs, p.1 ≠ n) : getL n.str es = some none := by
 have hr : es.any (·.refKey) = false := by
  induction x with
  | nil => rfl
  | cons a _ ih =>
   refine hide fun Ψ kΨ => ?_
   obtain ⟨⟨tk, ek⟩, ev⟩ := a
   refine kΨ ?_
   rw [List.any_cons, ih fun p m => hn p (.tail _ m)]; simp [DictEntry.refKey, ek]
 have hf : es.find? (·.key.isStr n.str) = none := by
  rw [List.find?_eq_none]
  intro en m
  refine hide fun Ψ kΨ => ?_
  obtain ⟨i, hi⟩ := List.getElem?_of_mem m
  obtain ⟨f, hf, ⟨tk, ek⟩, _⟩ := x.getl hi
  refine kΨ ?_
  rw [ek, isStr_str]
  have := hn f (List.mem_of_getElem? hf)
  simpa using this
 unfold getL
 rw [hf, hr]; rfl
theorem E_meth (Y : Hy ω) (T : Tab ω.K) (C : COk ω r cf) {o : Expr} {es : List Expr} {n : Nm} {apos pos : Pos} {l : List V} {m : Option Nm} (hc : notCall o = true) (hline : (apos.endLine == pos.line) = true) (hp : allPlain es = true) (hlen : es.length ≤ 20)
  (x : EOk ω r env ρ H (eval o env) z₁ H₁) (hm : methOf H₁ z₁ n = some m) (y : LOk ω r env ρ H₁ (spliced (backTo pos (starEach es env))) l H₂) (c : methV cf m z₁ n l H₂ = some (z, H₃)) : EOk ω r env ρ H (eval (.Call (.Attribute o n.str apos) es [] pos) env) z H₃ := fun A E s φ Q R S F k => by
 rw [arm_eval_Call, base_of hc]
 refine wpAny_bind (x A E s φ _ R S F fun v h1 t1 φ1 s1 S1 F1 v1 => ?_)
 refine wpAny_bind (wpAny_standAt ?_)
 have hpos : methodCallPos true o env apos pos = pure pos := by unfold methodCallPos; rw [hline]; rfl
 have hform : methodCallForm (es.length + ([] : List Keyword).length) (backTo pos (starEach es env)) (backToKw pos (keywordEach [] env)) = true := by
  unfold methodCallForm
  rw [star_len hp, decide_eq_true (by show es.length + 0 + 0 < 30; omega)]; rfl
 unfold methodCall
 rw [hform]
 refine invob hm fun i ob e1 ho e => invE e (fun e => invoI e fun cn fs e2 e => inv1 e fun f hf e => ?_) fun e => invoL e fun xs e2 e => invC e fun hh e => ?_
 ·obtain rfl := Option.some.inj e
  apply v1.oObj e1
  refine fun lc hl => S1.ins T hl (e2 ▸ ho) fun C' es' cnt G h3 h4 h5 h6 _ => ?_
  refine hide fun Ψ kΨ => ?_
  obtain ⟨a, a1, a2, a3, a4⟩ := (T.meth cn n f hf).ok C' G.gv
  obtain ⟨mm, Fr⟩ := F1.fr S1
  refine kΨ ?_
  have hno : okAttr n = false := invC hf fun hh _ => by rw [hh.2]; rfl
  refine wpAny_bind (wpAny_holding (method_inst Fr Y.kin ⟨h3, rfl, rfl, h4⟩ G.pg a1 a2 (getL_none h5 fun p hp q => by rw [← q, h6 p hp] at hno; cases hno) ?_))
  rw [hpos]
  refine wpAny_bind (wpAny_pure (callWith_ok (ω := ω) hp (.inl a3) (y A E _ φ1 _ R S1 F1 fun vs h2 t2 φ2 s2 S2 F2 v2 => ⟨S2.kin Y, ?_⟩)))
  refine C.run _ _ _ _ _ c A E _ φ2 (.ref a) (.ref lc.a :: vs) Q R S2 (.g a4) (.cons (VR.own (.oOb e1 hl) S1 F1 s2) v2) fun q h3 t3 φ3 s3 S3 q3 => k q h3 t3 φ3 ((s1.trans s2).trans s3.wide) S3 (F2.step S2 s3) q3
 ·obtain rfl := Option.some.inj e
  apply v1.oObj e1
  refine fun lc hl => S1.lst hl (e2 ▸ ho) fun _ cnt its h2 _ _ _ => ?_
  have hslot : Slot "list" n.str (lmName n) ∧ typeOf (.builtin (lmName n)) = pure (.type "method_descriptor") := by
   rcases hh with rfl | rfl | rfl
   ·exact ⟨PySem.F.slot_list_append, PySem.F.type_list_append⟩
   ·exact ⟨PySem.F.slot_list_pop, PySem.F.type_list_pop⟩
   ·exact ⟨PySem.F.slot_list_insert, PySem.F.type_list_insert⟩
  refine wpAny_bind (wpAny_holding (getMethod_list_of hslot.1 hslot.2 ⟨_, h2, rfl, _, rfl⟩ ⟨_, h2, rfl⟩ ?_))
  rw [hpos]
  refine wpAny_bind (wpAny_pure (callWith_ok (ω := ω) hp (.inr (.inl ⟨_, rfl⟩)) (y A E _ φ1 _ R S1 F1 fun vs h2 t2 φ2 s2 S2 F2 v2 => ⟨S2.kin Y, ?_⟩)))
  refine invR c fun j ej c => ?_
  cases e1.symm.trans ej
  exact listM_ok (s := ⟨h2, _, _, _, _⟩) (pre_get s2.pre hl) S2 v2 c fun q h3 t3 s3 S3 q3 => k q h3 t3 φ2 ((s1.trans s2).trans s3.wide) S3 (F2.step S2 s3) q3
end
end
end Mine
namespace Mine
section
open PySem PySem.W PyProof.Rows PySem.Calls
section
variable {ω : Gd} {φ φ' : List Lc} {H H₁ H₂ H₃ H' : MH} {h h' : Heap} {env : Env} {ρ : Loc} {r : Nat} {A : Around} {E : Value → Shared → Prop} {s : Shared} {z z₁ z₂ z₃ : V} {cf : CF}
inductive Kvs (K : Frag) (φ : List Lc) (h : Heap) : List (Value × Value) → List V → Prop
 | nil : Kvs K φ h [] []
 | cons {a b : Value} {l : List (Value × Value)} {x y : V} {r : List V} : VR K φ h a x → VR K φ h b y → Kvs K φ h l r → Kvs K φ h ((a, b) :: l) (.pair x y :: r)
noncomputable def DOk (ω : Gd) (r : Nat) (env : Env) (ρ : Loc) (H : MH) (t : Sem (List (Value × Value))) (l : List V) (H' : MH) : Prop :=
 ∀ (A : Around) (E : Value → Shared → Prop) (s : Shared) (φ : List Lc) (Q : List (Value × Value) → Shared → Prop), Room A r → St ω φ H s.heap → FrOk ω env φ ρ s.heap →
  (∀ v h' tk φ', Step φ (own env) s.heap φ' h' → St ω φ' H' h' → FrOk ω env φ' ρ h' → Kvs ω.K φ' h' v l → Q v { s with heap := h', toks := tk }) → wpAny ω.m A t Q E s
noncomputable def withPos (pos : Pos) (l : List (Sem Value)) : List (Sem Value) := l.map fun v => do let x ← v; standAt pos; pure x
noncomputable def pairsOf (env : Env) (pos : Pos) : List (Option Expr) → List Expr → List (Sem Value × Sem Value)
 | some k :: ks, v :: vs => (eval k env, do let x ← eval v env; standAt pos; pure x) :: pairsOf env pos ks vs
 | _, _ => []
theorem Kvs.own {vs : List (Value × Value)} {l : List V} (x : Kvs ω.K φ h vs l) (S : St ω φ H h) (F : FrOk ω env φ ρ h) (s : Step φ (Mine.own env) h φ' h') : Kvs ω.K φ' h' vs l := by
 induction x with
 | nil => exact .nil
 | cons a b _ ih => exact .cons (a.own S F s) (b.own S F s) ih
theorem D_nil {vs : List Expr} {pos : Pos} : DOk ω r env ρ H (evalPairs (pairsOf env pos [] vs)) [] H := fun A E s φ Q R S F k => wpAny_pure (k [] s.heap s.toks φ .refl S F .nil)
theorem D_cons {kx : Expr} {ks : List (Option Expr)} {v : Expr} {vs : List Expr} {pos : Pos} {l : List V} (x : EOk ω r env ρ H (eval kx env) z₁ H₁) (y : EOk ω r env ρ H₁ (eval v env) z₂ H₂) (d : DOk ω r env ρ H₂ (evalPairs (pairsOf env pos ks vs)) l H₃) :
  DOk ω r env ρ H (evalPairs (pairsOf env pos (some kx :: ks) (v :: vs))) (.pair z₁ z₂ :: l) H₃ := fun A E s φ Q R S F k => by
 refine evalPairs_cons (x A E s φ _ R S F fun kv h1 t1 φ1 s1 S1 F1 v1 => ?_)
 refine wpAny_bind (y A E _ φ1 _ R S1 F1 fun vv h2 t2 φ2 s2 S2 F2 v2 => ?_)
 refine wpAny_bind (wpAny_standAt (wpAny_pure ?_))
 refine d A E _ φ2 _ R S2 F2 fun ps h3 t3 φ3 s3 S3 F3 v3 => ?_
 exact k _ h3 t3 φ3 ((s1.trans s2).trans s3) S3 F3 (.cons ((v1.own S1 F1 s2).own S2 F2 s3) (v2.own S2 F2 s3) v3)
theorem carries_int {vs : List (Value × Value)} {l : List V} {kv : List (Int × V)} (x : Kvs ω.K φ h vs l) (e : mapO kI l = some kv) : ∃ kvs, Carries (intKind ω.prog ω.w) vs kvs ∧ All2 (KE (VR ω.K φ h)) kvs kv := by
 induction x generalizing kv with
 | nil => cases e; exact ⟨[], trivial, .nil⟩
 | cons a b c ih =>
  refine inv1 e fun p e1 e => inv1 e fun kv' q e => ?_
  obtain rfl := Option.some.inj e
  obtain ⟨kvs, c1, c2⟩ := ih q
  refine invI e1 fun i ei e1 => ?_
  obtain rfl := Option.some.inj e1
  apply a.oInt ei
  exact fun t => ⟨(i, _) :: kvs, ⟨intKind_is ω.prog ω.w i _, rfl, c1⟩, .cons ⟨rfl, b⟩ c2⟩
theorem carries_str {vs : List (Value × Value)} {l : List V} {kv : List (Nm × V)} (x : Kvs ω.K φ h vs l) (e : mapO kS l = some kv) : ∃ kvs, Carries (PySem.strKind ω.prog ω.w) vs kvs ∧ All2 (SE (VR ω.K φ h)) kvs kv := by
 induction x generalizing kv with
 | nil => cases e; exact ⟨[], trivial, .nil⟩
 | cons a b c ih =>
  refine inv1 e fun p e1 e => inv1 e fun kv' q e => ?_
  obtain rfl := Option.some.inj e
  obtain ⟨kvs, c1, c2⟩ := ih q
  refine invS e1 fun i ei e1 => ?_
  obtain rfl := Option.some.inj e1
  apply a.oStr ei
  exact fun t => ⟨(i.str, _) :: kvs, ⟨PySem.strKind_is ω.prog ω.w i.str _, rfl, c1⟩, .cons ⟨rfl, b⟩ c2⟩
theorem stored_nodup {K : Type} [DecidableEq K] (kv : List (K × Value)) (k : K) (v : Value) (hn : (kv.map (·.1)).Nodup) : ((stored kv k v).map (·.1)).Nodup := by
 unfold stored
 split
 ·have : (kv.map fun kv => if kv.1 = k then (kv.1, v) else kv).map (·.1) = kv.map (·.1) := by
   rw [List.map_map]
   refine List.map_congr_left fun p _ => ?_
   dsimp only [Function.comp]
   split <;> rfl
  rw [this]; exact hn
 ·rename_i q
  rw [List.map_append, List.nodup_append]
  refine ⟨hn, by simp, fun a ha b hb' => ?_⟩
  simp only [List.map_cons, List.map_nil, List.mem_singleton] at hb'
  subst hb'
  intro e
  subst e
  refine hide fun Ψ kΨ => ?_
  obtain ⟨p, hp, rfl⟩ := List.mem_map.mp ha
  refine kΨ ?_
  exact q (List.any_eq_true.mpr ⟨p, hp, by simp⟩)
theorem merged_k {R : Value → V → Prop} {kvs : List (Int × Value)} {kv : List (Int × V)} (x : All2 (KE R) kvs kv) : ∀ {acc : List (Int × Value)} {mac : List (Int × V)}, All2 (KE R) acc mac → (acc.map (·.1)).Nodup → All2 (KE R) (merged acc kvs) (kv.foldl (fun m p => put p.1 p.2 m) mac) := by
 induction x with
 | nil => intro acc mac a _; exact a
 | cons a t ih =>
  rename_i p q l r
  intro acc mac y hn
  obtain ⟨p1, p2⟩ := p
  obtain ⟨q1, q2⟩ := q
  obtain ⟨e1, e2⟩ := a
  dsimp only at e1
  subst e1
  exact ih (stored_k y hn e2) (stored_nodup acc p1 p2 hn)
theorem stored_s {R : Value → V → Prop} {k : Nm} {v : Value} {kv : List (Str × Value)} {kvs : List (Nm × V)} (x : All2 (SE R) kv kvs) (hn : (kv.map (·.1)).Nodup) (y : R v z) : All2 (SE R) (stored kv k.str v) (put k z kvs) := by
 have hh : ∀ {kv : List (Str × Value)} {kvs : List (Nm × V)}, All2 (SE R) kv kvs → k.str ∉ kv.map (·.1) → All2 (SE R) (kv.map (fun p => if p.1 = k.str then (p.1, v) else p)) kvs ∧ put k z kvs = kvs ++ [(k, z)] := by
  intro kv kvs x
  induction x with
  | nil => intro _; exact ⟨.nil, rfl⟩
  | cons a t ih =>
   rename_i p q l r
   intro m
   simp only [List.map_cons, List.mem_cons, not_or] at m
   obtain ⟨i1, i2⟩ := ih m.2
   obtain ⟨q1, q2⟩ := q
   have n : p.1 ≠ k.str := fun e => m.1 e.symm
   have n' : q1 ≠ k := fun e => n (a.1.trans (congrArg Nm.str e))
   refine ⟨?_, ?_⟩
   ·rw [List.map_cons, if_neg n]; exact .cons a i1
   ·unfold put; rw [if_neg n', i2]; rfl
 induction x with
 | nil => exact .cons ⟨rfl, y⟩ .nil
 | cons a t ih =>
  rename_i p q l r
  obtain ⟨q1, q2⟩ := q
  obtain ⟨n1, n2⟩ := List.nodup_cons.mp hn
  unfold put
  by_cases c : q1 = k
  ·have c' : p.1 = k.str := a.1.trans (congrArg Nm.str c)
   rw [if_pos c]
   unfold stored
   rw [if_pos (by simp [c'])]
   rw [List.map_cons, if_pos c']
   exact .cons ⟨a.1, y⟩ (hh t (c' ▸ n1)).1
  ·have c' : p.1 ≠ k.str := fun e => c (Nm.inj (a.1.symm.trans e))
   rw [if_neg c]
   have ih := ih n2
   unfold stored at ih ⊢
   rw [List.any_cons]
   simp only [c', decide_false, Bool.false_or]
   split
   ·rename_i q
    rw [if_pos q] at ih
    rw [List.map_cons, if_neg c']
    exact .cons a ih
   ·rename_i q
    rw [if_neg q] at ih
    exact .cons a ih
theorem merged_s {R : Value → V → Prop} {kvs : List (Str × Value)} {kv : List (Nm × V)} (x : All2 (SE R) kvs kv) : ∀ {acc : List (Str × Value)} {mac : List (Nm × V)}, All2 (SE R) acc mac → (acc.map (·.1)).Nodup → All2 (SE R) (merged acc kvs) (kv.foldl (fun m p => put p.1 p.2 m) mac) := by
 induction x with
 | nil => intro acc mac a _; exact a
 | cons a t ih =>
  rename_i p q l r
  intro acc mac y hn
  obtain ⟨p1, p2⟩ := p
  obtain ⟨q1, q2⟩ := q
  obtain ⟨e1, e2⟩ := a
  dsimp only at e1
  subst e1
  exact ih (stored_s y hn e2) (stored_nodup acc _ p2 hn)
theorem fold_put_len {α : Type} [DecidableEq α] : ∀ (l : List (α × V)) (m : List (α × V)), (l.foldl (fun m p => put p.1 p.2 m) m).length ≤ m.length + l.length
 | [], m => by simp
 | p :: l, m => by
  have a := fold_put_len l (put p.1 p.2 m)
  have b := put_length p.1 p.2 m
  simp only [List.foldl_cons, List.length_cons]
  omega
theorem mapO_len {β : Type} {f : V → Option β} : ∀ {l : List V} {r : List β}, mapO f l = some r → r.length = l.length
 | [], r, e => by cases e; rfl
 | a :: l, r, e => inv1 e fun b _ e => inv1 e fun r' q e => by
  obtain rfl := Option.some.inj e
  exact congrArg (· + 1) (mapO_len q)
theorem adopt {h1 h2 : Heap} {l : Lc} {o : O} {d : Addr} (S : St ω φ H h1) (hX : OffX ω.hb φ h1 [d]) (la : l.a = d) (ld : l.d = d) (lo : ω.hb.objs.size ≤ d) (k : ∀ a o, h1.get? a = some o → a ≠ d → h2.get? a = some o) (hs : h1.objs.size ≤ h2.objs.size)
  (r : (∀ v x, VR ω.K φ h1 v x → VR ω.K (φ ++ [l]) h2 v x) → RepO ω (φ ++ [l]) h2 l o) : St ω (φ ++ [l]) (H ++ [o]) h2 := by
 obtain ⟨G, T⟩ := growX (h' := h2) S hX (fun a o e n => k a o e (by simpa using n)) hs
 have t : ∀ a its, IsTup h1 a its → IsTup h2 a its := fun a its T => by
  have T' := T
  refine hide fun Ψ kΨ => ?_
  obtain ⟨o, ho, r⟩ := T
  refine kΨ ?_
  exact ⟨o, k _ _ ho (fun m => (hX _ (.head _)).1 its (m ▸ T')), r⟩
 have r := r fun v x z => z.mono (List.prefix_append _ _) t
 refine ⟨by simp [S.len], fun i l' o' e1 e2 => ?_, G.base, G.size, fun l' m => ?_, ?_, ?_⟩
 ·by_cases hi : i < φ.length
  ·rw [List.getElem?_append_left hi] at e1
   rw [List.getElem?_append_left (S.len ▸ hi)] at e2
   exact (G.rep i l' o' e1 e2).keep (List.prefix_append _ _) (fun _ _ t => t) (fun _ e => e) fun _ e => e
  ·have hi : i = φ.length := by
    have := (List.getElem?_eq_some_iff.mp e1).1
    simp at this; omega
   subst hi
   rw [List.getElem?_append_right (Nat.le_refl _)] at e1
   rw [S.len, List.getElem?_append_right (Nat.le_refl _)] at e2
   simp at e1 e2
   subst e1 e2
   exact r
 ·rcases List.mem_append.mp m with m | m
  ·exact S.lo l' m
  ·rw [List.mem_singleton.mp m, la, ld]; exact ⟨lo, lo⟩
 ·rw [List.map_append, List.nodup_append]
  refine ⟨S.ndd, by simp, fun a ha b hb' => ?_⟩
  simp only [List.map_cons, List.map_nil, List.mem_singleton] at hb'
  rw [hb', ld]
  intro q
  exact (hX _ (.head _)).2.2.1 (q ▸ ha)
 ·rw [List.map_append, List.nodup_append]
  refine ⟨S.nda, by simp, fun a ha b hb' => ?_⟩
  simp only [List.map_cons, List.map_nil, List.mem_singleton] at hb'
  rw [hb', la]
  intro q
  exact (hX _ (.head _)).2.1 (q ▸ ha)
theorem E_dict {ks : List (Option Expr)} {vs : List Expr} {pos : Pos} {l : List V} {o : O} (hne : pairsOf env pos ks vs ≠ []) (hshape : (evalEachOpt ks env).zip ((evalEach vs env).map fun v => do let x ← v; standAt pos; pure x) = (pairsOf env pos ks vs).map fun p => (some p.1, p.2)) (hlen : (pairsOf env pos ks vs).length ≤ 15) (hl : l ≠ [])
  (x : DOk ω r env ρ H (evalPairs (pairsOf env pos ks vs)) l H₁) (hl15 : l.length ≤ 15) (hd : dispV l = some o) : EOk ω r env ρ H (eval (.Dict ks vs pos) env) (.obj H₁.length) (H₁ ++ [o]) := fun A E s φ Q R S F k => by
 have G := Step.grow (φ := φ) (push_keep s.heap { cls := .type "dict", data := .dict #[] }) (push_le _ _)
 have S0 := S.grow (push_keep s.heap { cls := .type "dict", data := .dict #[] }) (push_le _ _)
 have F0 := F.step S G
 have new0 : (s.heap.push { cls := .type "dict", data := .dict #[] }).get? s.heap.objs.size = some { cls := .type "dict", data := .dict #[] } := Heap.get?_push_size _ rfl
 have offD : s.heap.objs.size ∉ φ.map (·.d) := fun q => by
  obtain ⟨l, ml, e⟩ := List.mem_map.mp q
  have := (S.lt ml).1
  rw [e] at this
  exact absurd this (Nat.lt_irrefl _)
 have offO : s.heap.objs.size ∉ own env := fun q => absurd (F.own_lt _ q) (Nat.lt_irrefl _)
 have fin : ∀ (h1 h2 : Heap) (t2 : Nat) (φ1 : List Lc) (e : Int), Step φ (own env) (s.heap.push { cls := .type "dict", data := .dict #[] }) φ1 h1 → St ω φ1 H₁ h1 → FrOk ω env φ1 ρ h1 → Heap.SameBut s.heap.objs.size h1 h2 →
   ((∀ v x, VR ω.K φ1 h1 v x → VR ω.K (φ1 ++ [⟨s.heap.objs.size, s.heap.objs.size, e⟩]) h2 v x) → RepO ω (φ1 ++ [⟨s.heap.objs.size, s.heap.objs.size, e⟩]) h2 ⟨s.heap.objs.size, s.heap.objs.size, e⟩ o) → Q (.ref s.heap.objs.size) { s with heap := h2, toks := t2 } := by
  intro h1 h2 t2 φ1 e s1 S1 F1 hs2 rep
  have e1 : h1.get? s.heap.objs.size = some { cls := .type "dict", data := .dict #[] } := s1.keep _ _ new0 offD offO
  have off1 : ∀ l ∈ φ1, l.d ≠ s.heap.objs.size ∧ l.a ≠ s.heap.objs.size := fun l ml => by
   rcases s1.fresh l ml with q | q
   ·exact ⟨Nat.ne_of_lt (S.lt q).1, Nat.ne_of_lt (S.lt q).2⟩
   ·rw [Heap.size_push] at q; exact ⟨Nat.ne_of_gt q.1, Nat.ne_of_gt q.2⟩
  have hX : OffX ω.hb φ1 h1 [s.heap.objs.size] := fun y my => by
   rw [List.mem_singleton.mp my]
   refine ⟨fun its ⟨o', ho', hc', _⟩ => (by rw [e1] at ho'; cases ho'; exact absurd hc' (by decide)), fun q => ?_, fun q => ?_, ?_⟩
   ·obtain ⟨l, ml, e⟩ := List.mem_map.mp q; exact (off1 l ml).2 e
   ·obtain ⟨l, ml, e⟩ := List.mem_map.mp q; exact (off1 l ml).1 e
   ·cases q : ω.hb.get? s.heap.objs.size with
    | none => rfl
    | some _ => exact absurd (Heap.lt_size q) (Nat.not_lt.mpr S.size)
  have kk : ∀ a o, h1.get? a = some o → a ≠ s.heap.objs.size → h2.get? a = some o := fun a o ea n => (hs2.2 a n).trans ea
  have S2 := adopt (h2 := h2) (l := ⟨s.heap.objs.size, s.heap.objs.size, e⟩) (o := o) S1 hX rfl rfl S.size kk (by rw [hs2.1]; exact Nat.le_refl _) rep
  have ownNe : ∀ a ∈ own env, a ≠ s.heap.objs.size := fun a m q => offO (q ▸ m)
  have F2 : FrOk ω env (φ1 ++ [⟨s.heap.objs.size, s.heap.objs.size, e⟩]) ρ h2 := by
   have t : ∀ v x, VR ω.K φ1 h1 v x → VR ω.K (φ1 ++ [⟨s.heap.objs.size, s.heap.objs.size, e⟩]) h2 v x := fun v x z => z.mono (List.prefix_append _ _) fun a its T => by
    have T' := T
    obtain ⟨o, ho, r⟩ := T
    exact ⟨o, kk _ _ ho (fun m => (hX _ (.head _)).1 its (m ▸ T')), r⟩
   have kc : ∀ p ∈ env.cells, ∀ v, h1.IsCell p.2 v → h2.IsCell p.2 v := fun p m v ⟨o, ho, hd⟩ => ⟨o, kk _ _ ho (ownNe _ (List.mem_cons_of_mem _ (List.mem_map_of_mem m))), hd⟩
   obtain ⟨m, ⟨o', es, ep, ho', n⟩, l⟩ := F1.ns
   have mem : ∀ {x c}, env.cells.lookup x = some c → (x, c) ∈ env.cells := fun e => by
    obtain ⟨l1, l2, h1, h2⟩ := List.lookup_eq_some_iff.mp e
    rw [h1]; simp
   refine ⟨F1.kind, F1.glob, F1.blt, ⟨m, ⟨o', es, ep, kk _ _ ho' (ownNe _ (.head _)), n⟩, fun x V e ek => ?_⟩, fun x c e => ?_, fun x V e ek => ?_, fun p hp => ?_, F1.nd, fun a m => ⟨fun q => ?_, fun q => ?_, (F1.off a m).2.2⟩⟩
   ·obtain ⟨v, e1, e2⟩ := l x V e ek
    exact ⟨v, e1, t _ _ e2⟩
   ·obtain ⟨v, hv⟩ := F1.cel x c e
    exact ⟨v, kc _ (mem e) v hv⟩
   ·obtain ⟨c, v, e1, e2, e3⟩ := F1.celv x V e ek
    exact ⟨c, v, e1, kc _ (mem e1) _ e2, t _ _ e3⟩
   ·obtain ⟨v, hv⟩ := F1.celm p hp
    exact ⟨v, kc p hp v hv⟩
   ·rw [List.map_append, List.mem_append] at q
    rcases q with q | q
    ·exact (F1.off _ m).1 q
    ·simp at q; exact ownNe _ m q
   ·rw [List.map_append, List.mem_append] at q
    rcases q with q | q
    ·exact (F1.off _ m).2.1 q
    ·simp at q; exact ownNe _ m q
  refine k _ h2 t2 _ ⟨s1.pre.trans (List.prefix_append _ _), fun a o ea n m => ?_, ?_, fun l ml => ?_⟩ S2 F2 ?_
  ·exact kk a o (s1.keep a o (push_keep _ _ _ _ ea) n m) (Nat.ne_of_lt (Heap.lt_size ea))
  ·rw [hs2.1]; exact Nat.le_trans (push_le _ _) s1.size
  ·rcases List.mem_append.mp ml with ml | ml
   ·rcases s1.fresh l ml with q | q
    ·exact .inl q
    ·exact .inr ⟨Nat.le_trans (push_le _ _) q.1, Nat.le_trans (push_le _ _) q.2⟩
   ·rw [List.mem_singleton.mp ml]; exact .inr ⟨Nat.le_refl _, Nat.le_refl _⟩
  ·exact S1.new _
 have empt : ∀ {K' : Type} [DecidableEq K'] (knd : PySem.KeyKind ω.prog ω.w K') (h1 : Heap) (φ1 : List Lc), Step φ (own env) (s.heap.push { cls := .type "dict", data := .dict #[] }) φ1 h1 → h1.DictOf knd s.heap.objs.size [] := fun knd h1 φ1 s1 =>
  ⟨_, #[], 0, s1.keep _ _ new0 offD offO, ⟨rfl, rfl, rfl⟩, rfl, fun e he => by simp at he, .nil, by simp⟩
 refine invE hd (fun hd => inv1 hd fun kv hkv hd => ?_) fun hd => inv1 hd fun kv hkv hd => ?_
 ·obtain rfl := Option.some.inj hd
  refine wpAny_Dict_pairs (knd := intKind ω.prog ω.w) hshape hne hlen (x A E _ φ _ R S0 F0 fun ps h1 t1 φ1 s1 S1 F1 v1 => ?_)
  obtain ⟨kvs, c1, c2⟩ := carries_int v1 hkv
  refine ⟨kvs, c1, empt _ h1 φ1 s1, fun h2 d2 hs2 => ?_⟩
  obtain ⟨ep, d3⟩ := d2.dictAt
  refine fin h1 h2 _ φ1 ((ep : Int) - ((putAll kv).length : Int)) s1 S1 F1 hs2 fun t => ⟨rfl, _, ep, d3, by dsimp only; omega, merged_k (c2.mono fun _ _ z => ⟨z.1, t _ _ z.2⟩) .nil .nil, ?_⟩
  have a := fold_put_len kv []
  have b := mapO_len hkv
  rw [List.length_nil] at a
  exact Nat.le_trans a (by omega)
 ·obtain rfl := Option.some.inj hd
  refine wpAny_Dict_pairs (knd := PySem.strKind ω.prog ω.w) hshape hne hlen (x A E _ φ _ R S0 F0 fun ps h1 t1 φ1 s1 S1 F1 v1 => ?_)
  obtain ⟨kvs, c1, c2⟩ := carries_str v1 hkv
  refine ⟨kvs, c1, empt _ h1 φ1 s1, fun h2 d2 hs2 => ?_⟩
  refine fin h1 h2 _ φ1 0 s1 S1 F1 hs2 fun t => ⟨rfl, _, d2, merged_s (c2.mono fun _ _ z => ⟨z.1, t _ _ z.2⟩) .nil .nil, ?_⟩
  have a := fold_put_len kv []
  have b := mapO_len hkv
  rw [List.length_nil] at a
  exact Nat.le_trans a (by omega)
theorem E_dict0 {pos : Pos} : EOk ω r env ρ H (eval (.Dict [] [] pos) env) (.obj H.length) (H ++ [.idict []]) := fun A E s φ Q R S F k => by
 rw [arm_eval_Dict]
 refine wpAny_bind (wpAny_standAt ?_)
 show wpAny _ _ (dictDisplay []) _ _ _
 have e : dictDisplay [] = newDict := by unfold dictDisplay; rfl
 rw [e]
 unfold newDict
 refine wpAny_bind (wpAny_alloc (wpAny_pure ?_))
 obtain ⟨S2, s2⟩ := allocX (X := []) (l := ⟨s.heap.objs.size, s.heap.objs.size, 0⟩) (o := .idict []) S .nil (fun a o e _ => push_keep s.heap { cls := .type "dict", data := .dict #[] } a o e) (push_le _ _)
  (fun t => ⟨rfl, [], 0, ⟨_, #[], Heap.get?_push_size _ rfl, ⟨rfl, rfl, rfl⟩, rfl, fun e he => by simp at he, .nil, by simp⟩, by simp, .nil, by simp⟩) (Nat.le_refl _) (Nat.le_refl _)
 exact k _ _ _ _ s2.wide S2 (F.step S s2) (S.new _)
end
end
end Mine
namespace Mine
section
open PySem PySem.W PyProof.Rows PySem.Calls
section
variable {ω : Gd} {φ φ' : List Lc} {H H₁ H₂ H₃ H' : MH} {h h' : Heap} {env : Env} {ρ ρ' : Loc} {r : Nat} {A : Around} {E : Value → Shared → Prop} {s : Shared} {z z₁ z₂ z₃ : V} {cf : CF}
theorem get_put {α β : Type} [DecidableEq α] (k k' : α) (v : β) : ∀ l : List (α × β), get k (put k' v l) = if k = k' then some v else get k l
 | [] => by
  unfold put get
  by_cases q : k' = k
  ·rw [if_pos q, if_pos q.symm]
  ·rw [if_neg q, if_neg (fun e => q e.symm)]; rfl
 | (a, b) :: r => by
  have ih := get_put k k' v r
  unfold put
  split
  ·rename_i q
   subst q
   unfold get
   by_cases q : a = k
   ·rw [if_pos q, if_pos q.symm]
   ·rw [if_neg q, if_neg (fun e => q e.symm), if_neg q]
  ·rename_i q
   unfold get
   by_cases c : a = k
   ·rw [if_pos c, if_pos c, if_neg (fun e => q (c.trans e))]
   ·rw [if_neg c, if_neg c]; exact ih
theorem store_ok {x : Nm} {v : Value} {Q : Unit → Shared → Prop} (hk : env.kindOf x.str = some .local ∨ env.kindOf x.str = some .cell) (hc : env.kindOf x.str = some .cell → ∃ c, env.cells.lookup x.str = some c) (S : St ω φ H s.heap) (F : FrOk ω env φ ρ s.heap) (xv : VR ω.K φ s.heap v z)
  (k : ∀ h' tk, Step φ (own env) s.heap φ h' → St ω φ H h' → FrOk ω env φ (put x z ρ) h' → VR ω.K φ h' v z → Q () { s with heap := h', toks := tk }) : wpAny ω.m A (storeName env x.str v) Q E s := by
 rcases hk with hk | hk
 ·obtain ⟨m, n, l⟩ := F.ns
  refine wpAny_storeName_local hk n (fun h' n' hs => ?_) (by rw [F.kind]; rfl)
  obtain ⟨S', s'⟩ := growX (h' := h') (X := [env.locals]) S F.offX (fun a o e q => (hs.2 a (by simpa using q)).trans e) (by rw [hs.1]; exact Nat.le_refl _)
  have F' := F.stepL (m := m) (h' := s.heap) l S .refl n
  have t := fun v x (r : VR ω.K φ s.heap v x) => r.step S s' (fun x m => by rw [List.mem_singleton.mp m]; exact F.notTup _ (.head _))
  refine k h' _ s'.own S' ?_ (t _ _ xv)
  have hcl : ∀ p ∈ env.cells, p.2 ≠ env.locals := fun p hp q => by
   obtain ⟨v, o, ho, hd⟩ := F.celm p hp
   obtain ⟨o', es, ep, ho', hd', _⟩ := n
   rw [q, ho'] at ho; cases ho; rw [hd'] at hd; cases hd
  have kc : ∀ p ∈ env.cells, ∀ v, s.heap.IsCell p.2 v → h'.IsCell p.2 v := fun p m v c => c.sameBut hs (hcl p m)
  have mem : ∀ {x c}, env.cells.lookup x = some c → (x, c) ∈ env.cells := fun e => by
   obtain ⟨l1, l2, h1, h2⟩ := List.lookup_eq_some_iff.mp e
   rw [h1]; simp
  refine ⟨F.kind, F.glob, F.blt, ⟨_, n', fun y V e ek => ?_⟩, fun y c e => ?_, fun y V e ek => ?_, fun p hp => ?_, F.nd, F.off⟩
  ·rw [get_put] at e
   by_cases q : y = x
   ·subst q
    rw [if_pos rfl] at e
    cases e
    exact ⟨v, by simp, t _ _ xv⟩
   ·rw [if_neg q] at e
    obtain ⟨u, e1, e2⟩ := l y V e ek
    exact ⟨u, by rw [if_neg fun z => q (Nm.inj z)]; exact e1, t _ _ e2⟩
  ·obtain ⟨u, hu⟩ := F.cel y c e; exact ⟨u, kc _ (mem e) _ hu⟩
  ·rw [get_put] at e
   by_cases q : y = x
   ·subst q; rw [hk] at ek; rcases ek with ek | ek <;> cases ek
   ·rw [if_neg q] at e
    obtain ⟨c, u, e1, e2, e3⟩ := F.celv y V e ek
    exact ⟨c, u, e1, kc _ (mem e1) _ e2, t _ _ e3⟩
  ·obtain ⟨u, hu⟩ := F.celm p hp; exact ⟨u, kc p hp _ hu⟩
 ·obtain ⟨c, hc⟩ := hc hk
  obtain ⟨v₀, cl⟩ := F.cel _ _ hc
  have mem : ∀ {x c}, env.cells.lookup x = some c → (x, c) ∈ env.cells := fun e => by
   obtain ⟨l1, l2, h1, h2⟩ := List.lookup_eq_some_iff.mp e
   rw [h1]; simp
  have mc := mem hc
  have hO : OffX ω.hb φ s.heap [c] := fun y my => by
   rw [List.mem_singleton.mp my]
   have o := F.off c (List.mem_cons_of_mem _ (List.mem_map_of_mem (f := fun p : Str × Addr => p.2) mc))
   refine ⟨F.notTup _ (List.mem_cons_of_mem _ (List.mem_map_of_mem (f := fun p : Str × Addr => p.2) mc)), o.2.1, o.1, ?_⟩
   cases q : ω.hb.get? c with
   | none => rfl
   | some _ => exact absurd (Heap.lt_size q) (Nat.not_lt.mpr o.2.2)
  refine wpAny_storeName_cell F.kind hk hc cl fun h' c' hs => ?_
  obtain ⟨S', s'⟩ := growX (h' := h') (X := [c]) S hO (fun a o e q => (hs.2 a (by simpa using q)).trans e) (by rw [hs.1]; exact Nat.le_refl _)
  have t := fun v x (r : VR ω.K φ s.heap v x) => r.step S s' (fun x m => (hO x m).1)
  refine k h' _ (s'.more fun x m => by rw [List.mem_singleton.mp m]; exact List.mem_cons_of_mem _ (List.mem_map_of_mem (f := fun p : Str × Addr => p.2) mc)) S' ?_ (t _ _ xv)
  obtain ⟨m, n, l⟩ := F.ns
  have hcL : env.locals ≠ c := fun q => by
   obtain ⟨o, ho, hd⟩ := cl
   obtain ⟨o', es, ep, ho', hd', _⟩ := n
   rw [q, ho] at ho'; cases ho'; rw [hd] at hd'; cases hd'
  have kc : ∀ p ∈ env.cells, p.2 ≠ c → ∀ v, s.heap.IsCell p.2 v → h'.IsCell p.2 v := fun p m n v c => c.sameBut hs n
  refine ⟨F.kind, F.glob, F.blt, ⟨m, n.sameBut hs hcL, fun y V e ek => ?_⟩, fun y d e => ?_, fun y V e ek => ?_, fun p hp => ?_, F.nd, F.off⟩
  ·rw [get_put] at e
   by_cases q : y = x
   ·subst q; rw [hk] at ek; cases ek
   ·rw [if_neg q] at e
    obtain ⟨u, e1, e2⟩ := l y V e ek
    exact ⟨u, e1, t _ _ e2⟩
  ·by_cases q : d = c
   ·subst q; exact ⟨_, c'⟩
   ·obtain ⟨u, hu⟩ := F.cel y d e; exact ⟨u, kc _ (mem e) q _ hu⟩
  ·rw [get_put] at e
   by_cases q : y = x
   ·subst q
    rw [if_pos rfl] at e
    cases e
    exact ⟨c, v, hc, c', t _ _ xv⟩
   ·rw [if_neg q] at e
    obtain ⟨d, u, e1, e2, e3⟩ := F.celv y V e ek
    refine ⟨d, u, e1, kc _ (mem e1) (fun qd => ?_) _ e2, t _ _ e3⟩
    have m1 := mem e1
    dsimp only at qd
    rw [qd] at m1
    have : y.str = x.str := by
     have nd := F.nd
     obtain ⟨i, hi⟩ := List.getElem?_of_mem m1
     obtain ⟨j, hj⟩ := List.getElem?_of_mem mc
     have hi' := (List.getElem?_eq_some_iff.mp hi)
     have hj' := (List.getElem?_eq_some_iff.mp hj)
     have ij : i = j := (List.getElem_inj (xs := env.cells.map (·.2)) (h₀ := by simpa using hi'.1) (h₁ := by simpa using hj'.1) nd).mp (by
      rw [List.getElem_map, List.getElem_map, hi'.2, hj'.2])
     subst ij
     rw [hi] at hj
     exact congrArg Prod.fst (Option.some.inj hj)
    exact q (Nm.inj this)
  ·by_cases q : p.2 = c
   ·rw [q]; exact ⟨_, c'⟩
   ·obtain ⟨u, hu⟩ := F.celm p hp; exact ⟨u, kc p hp q _ hu⟩
end
end
end Mine
namespace Mine
section
open PySem PySem.W PyProof.Rows PySem.Calls
section
variable {prog : Program} {w : World} {K' : Type} [DecidableEq K'] {knd : PySem.KeyKind prog w K'} {A : Around} {E : Value → Shared → Prop} {s : Shared}
theorem dictSet_at {d : Addr} {kvs : List (K' × Value)} {ep : Nat} {k : K'} {key v : Value} {Q : Unit → Shared → Prop} (hkey : knd.is k key = true) (hm : s.heap.DictAt knd d kvs ep) (hsz : kvs.length ≤ sizeLine)
  (q : ∀ h' (ep' : Nat), h'.DictAt knd d (stored kvs k v) ep' → (ep' : Int) - (stored kvs k v).length = ep - kvs.length → Heap.SameBut d s.heap h' → Q () { s with heap := h', toks := s.toks + 1 }) : wpAny (model prog w) A (dictSet d key v) Q E s := by
 refine hide fun Ψ kΨ => ?_
 obtain ⟨o, es, ho, hc, hd, hk, hp, hn⟩ := hm
 refine kΨ ?_
 have e1 := hp.length
 rw [Array.length_toList] at e1
 have same : (es.findIdx? fun e => knd.is k e.key) = kvs.findIdx? fun kv => decide (kv.1 = k) := by
  have := hp.findIdx k
  rw [← this]
  obtain ⟨l⟩ := es
  simp
 unfold dictSet
 refine wpAny_holding (wpAny_bind (knd.pyHash hkey ?_))
 unfold dictSetHashed
 refine wpAny_holding (wpAny_bind (wpAny_dictFind_of (s := { s with toks := s.toks + 1 }) hkey ho hd hk ?_))
 cases hi : es.findIdx? fun e => knd.is k e.key with
 | some i =>
  have there := any_of_findIdx_some (same ▸ hi)
  have hst : stored kvs k v = kvs.map fun kv => if kv.1 = k then (kv.1, v) else kv := by unfold stored; rw [if_pos there]
  refine wpAny_bind (wpAny_rule (wpAny_bind (wpAny_updateDict (s := { s with toks := s.toks + 1 }) ho hd (wpAny_point ?_))))
  refine q _ ep ⟨_, _, Heap.get?_update_self _ ho (Obj.isFreed_of_dict (Obj.data_mapDict hd _)), hc.mapDict _, Obj.data_mapDict hd _, hk.modify _ _, ?_, ?_⟩ ?_ (Heap.SameBut.update ..)
  ·have hl : (es.toList.findIdx? fun e => knd.is k e.key) = some i := by rw [← hi]; obtain ⟨l⟩ := es; simp
   have := hp.modify hn hl v
   rw [hst]
   obtain ⟨l⟩ := es
   simpa using this
  ·rw [hst, keys_map_store]; exact hn
  ·rw [hst, List.length_map]
 | none =>
  have gone : k ∉ kvs.map (·.1) := not_mem_of_findIdx_none (same ▸ hi)
  have hst : stored kvs k v = kvs ++ [(k, v)] := by
   unfold stored
   rw [if_neg]
   intro t
   refine hide fun Ψ kΨ => ?_
   obtain ⟨kv, m, e⟩ := List.any_eq_true.mp t
   refine kΨ ?_
   exact gone (of_decide_eq_true e ▸ List.mem_map_of_mem m)
  refine wpAny_bind (wpAny_rule (wpAny_updateDictKeys (hz := by omega) (s := { s with toks := s.toks + 1 }) ho hd ?_))
  refine q _ (ep + 1) ⟨_, _, Heap.get?_update_self _ ho (Obj.isFreed_of_dict (Obj.data_mapDictKeys hd _)), hc.mapDictKeys _, Obj.data_mapDictKeys hd _, hk.push hkey _, ?_, ?_⟩ ?_ (Heap.SameBut.update ..)
  ·have := hp.append hkey (knd.hash k) v
   rw [hst]
   obtain ⟨l⟩ := es
   simpa using this
  ·rw [hst, List.map_append, List.nodup_append]
   refine ⟨hn, by simp, fun a ha b hb e => ?_⟩
   simp only [List.map_cons, List.map_nil, List.mem_singleton] at hb
   exact gone (hb ▸ e ▸ ha)
  ·rw [hst, List.length_append]; simp; omega
theorem setItem_at {d : Addr} {kvs : List (K' × Value)} {ep : Nat} {k : K'} {key v : Value} {Q : Unit → Shared → Prop} (hkey : knd.is k key = true) (hm : s.heap.DictAt knd d kvs ep) (hsz : kvs.length ≤ sizeLine)
  (q : ∀ h' (ep' : Nat), h'.DictAt knd d (stored kvs k v) ep' → (ep' : Int) - (stored kvs k v).length = ep - kvs.length → Heap.SameBut d s.heap h' → Q () { s with heap := h', toks := s.toks + 1 }) : wpAny (model prog w) A (setItem (.ref d) key v) Q E s := by
 have ty := hm.dictOf.mapOf.typeIs
 unfold setItem
 refine wpAny_holding (wpAny_bind (wpAny_sequenceKey ty (by decide) ?_))
 refine wpAny_bind (wpAny_callSpecial?_slot (name := Str.ofString "__setitem__") ty slot_dict_setitem (wpAny_call_entry slot_dict_setitem ty entry_dict_setitem ?_ (args_dict_setitem _ _ _)))
 show wpAny _ _ (Builtin.Dict.notOrdered "__setitem__" ⟨[.ref d, key, v], []⟩ >>= _) _ _ s
 refine wpAny_bind (wpAny_notOrdered_dict ty ?_)
 show wpAny _ _ (dictSet d key v >>= _) _ _ s
 exact wpAny_bind (dictSet_at hkey hm hsz fun h' ep' a b c => wpAny_pure ⟨.none, rfl, wpAny_pure (q h' ep' a b c)⟩)
end
section
variable {ω : Gd} {φ φ' : List Lc} {H H₁ H₂ H₃ H' : MH} {h h' : Heap} {env : Env} {ρ ρ' : Loc} {r : Nat} {A : Around} {E : Value → Shared → Prop} {s : Shared} {z z₁ z₂ z₃ : V} {cf : CF}
theorem setSub_ok {o k v : Value} {Q : Unit → Shared → Prop} (S : St ω φ H s.heap) (x : VR ω.K φ s.heap o z₁) (y : VR ω.K φ s.heap k z₂) (u : VR ω.K φ s.heap v z₃) (e : setSubV H z₁ z₂ z₃ = some H')
  (q : ∀ h' tk, Step φ [] s.heap φ h' → St ω φ H' h' → Q () { s with heap := h', toks := tk }) : wpAny ω.m A (setItem o k v) Q E s := by
 refine invI e fun j e2 e => invR e fun i e1 e => inv1 e fun ob hi e => invE e (fun e => invoD e fun kvs e3 e => invC e fun hc e => ?_) fun e => invoL e fun xs e3 e => invC e fun hc e => ?_
 ·obtain rfl := Option.some.inj e
  apply x.oObj e1
  intro l hl
  apply y.oInt e2
  refine fun t => S.idc hl (e3 ▸ hi) fun e1 kv' ep h2 h3 h4 h5 hz => ?_
  refine setItem_at (intKind_is ω.prog ω.w j t) h2 (by rw [sizeLine_eq]; omega) fun h' ep' d' he hs => ?_
  obtain ⟨S', s'⟩ := turnX (X := []) (o := .idict (put j z₃ kvs)) S .nil hl (fun a o ea n _ => (hs.2 a (e1 ▸ n)).trans ea) (by rw [hs.1]; exact Nat.le_refl _) (fun t ka => by
   have st := (stored_k (k := j) h4 h2.nodup u).mono (S := KE (VR ω.K φ h')) fun _ _ z => ⟨z.1, t _ _ z.2⟩
   have l1 := st.length
   exact ⟨e1, _, ep', d', by omega, st, by have := put_length j z₃ kvs; omega⟩)
  exact q h' _ s' S'
 ·obtain rfl := Option.some.inj e
  apply x.oObj e1
  intro l hl
  apply y.oInt e2
  refine fun t => S.lst hl (e3 ▸ hi) fun e1 cnt its h2 h3 h4 hz => ?_
  refine ki_setAt h2 hc.1 (by omega) (by omega) ?_
  obtain ⟨S', s'⟩ := S.turnL (ys := xs.set j.toNat z₃) hl e1 (Heap.SameBut.update s.heap _ (Obj.mapSeq fun x => x.setIfInBounds j.toNat v)) (Heap.get?_update_self _ h2 rfl) (fun t => by
   show All2 _ (its.setIfInBounds j.toNat v).toList _
   rw [Array.toList_setIfInBounds]
   exact (h3.mono fun _ _ z => t _ _ z).set _ (t _ _ u)) (by rw [List.length_set]; omega)
  exact q _ _ s' S'
end
end
end Mine
namespace Mine
section
open PySem PySem.W PyProof.Rows PySem.Calls
section
variable {ω : Gd} {φ φ' : List Lc} {H H₁ H₂ H₃ H' : MH} {h h' : Heap} {env : Env} {ρ ρ' : Loc} {r : Nat} {A : Around} {E : Value → Shared → Prop} {s : Shared} {z z₁ z₂ z₃ : V} {cf : CF}
theorem bi2_ok {f : Int → Int → Int} {avs : List Value} {vs : List V} (g : List Value → Sem Value) (a : All2 (VR ω.K φ s.heap) avs vs) (e : biI2 f vs H = some (z, H')) {Q : Value → Shared → Prop}
  (k : ∀ i t j t', z = .int (f i j) → H' = H → wpAny ω.m A (g [.int i t, .int j t']) Q E s) : wpAny ω.m A (g avs) Q E s := by
 refine inv_two e fun b c e1 e => invII e fun i j e2 e3 e => ?_
 cases e
 apply a.oTwo e1
 intro u w x y
 apply x.two e2 y e3
 exact fun t t' => k i t j t' rfl rfl
theorem bi_dict (Y : Hy ω) (R : Room A r) {avs : List Value} {vs : List V} {v0 : V} {i : Nat} {kvs : List (Int × V)} {Q : Value → Shared → Prop} (S : St ω φ H s.heap) (a : All2 (VR ω.K φ s.heap) avs vs) (e : vs = [v0]) (e1 : v0 = .obj i) (hi : H[i]? = some (.idict kvs))
  (k : ∀ v h' tk φ', Step φ [] s.heap φ' h' → St ω φ' (H ++ [.idict kvs]) h' → VR ω.K φ' h' v (.obj H.length) → Q v { s with heap := h', toks := tk }) : wpAny ω.m A (call (.type "dict") avs) Q E s := by
 apply a.oOne e
 intro b x
 apply x.oObj e1
 refine fun l hl => S.idc hl hi fun _ kv' ep h2 _ h4 h5 hz => ?_
 refine wpAny_sz (kt_call_dict (knd := intKind ω.prog ω.w) (sys_ne Y (S.lo _ (List.mem_of_getElem? hl)).2) h2.dictOf (by rw [sizeLine_eq]; omega) fun h' d' hs hs' => ?_)
 refine hide fun Ψ kΨ => ?_
 obtain ⟨ep', d3⟩ := d'.dictAt
 obtain ⟨S2, s2⟩ := allocX (X := []) (l := ⟨s.heap.objs.size, s.heap.objs.size, (ep' : Int) - kvs.length⟩) (o := .idict kvs) S .nil (fun a o ea _ => (hs.2 a (Nat.ne_of_lt (Heap.lt_size ea))).trans (push_keep _ _ _ _ ea)) hs'
  (fun t => ⟨rfl, _, ep', d3, by dsimp only; omega, h4.mono fun _ _ z => ⟨z.1, t _ _ z.2⟩, h5⟩) (Nat.le_refl _) (Nat.le_refl _)
 refine kΨ ?_
 exact k _ h' _ _ s2 S2 (S.new _)
theorem bi_list (R : Room A r) {avs : List Value} {vs : List V} {v0 : V} {i : Nat} {xs : List V} {Q : Value → Shared → Prop} (S : St ω φ H s.heap) (a : All2 (VR ω.K φ s.heap) avs vs) (e : vs = [v0]) (e1 : v0 = .obj i) (hi : H[i]? = some (.list xs))
  (k : ∀ v h' tk φ', Step φ [] s.heap φ' h' → St ω φ' (H ++ [.list xs]) h' → VR ω.K φ' h' v (.obj H.length) → Q v { s with heap := h', toks := tk }) : wpAny ω.m A (call (.type "list") avs) Q E s := by
 apply a.oOne e
 intro b x
 apply x.oObj e1
 refine fun l hl => S.lst hl hi fun _ cnt its h2 h3 h4 hz => ?_
 refine wpAny_sz (call_list_seq (T := "list") _ (.inl rfl) h2 rfl rfl (fun h' c' kk ho hs' => ?_) (by rw [sizeLine_eq]; omega))
 obtain ⟨S2, s2⟩ := allocX (X := []) (l := ⟨s.heap.objs.size, s.heap.objs.size, 0⟩) (o := .list xs) S .nil (fun a o e _ => kk a o e) hs'
  (fun t => ⟨rfl, _, its, ho, h3.mono fun _ _ z => t _ _ z, h4⟩) (Nat.le_refl _) (Nat.le_refl _)
 exact k _ h' _ _ s2 S2 (S.new _)
theorem bi_ok {n : Nm} {fv : Value} {avs : List Value} {vs : List V} {Q : Value → Shared → Prop} (Y : Hy ω) (T : Tab ω.K) (R : Room A r) (S : St ω φ H s.heap) (hb' : isBi n = true) (g : gval ω.K n = some fv) (a : All2 (VR ω.K φ s.heap) avs vs) (e : biF n vs H = some (z, H'))
  (k : ∀ v h' tk φ', Step φ [] s.heap φ' h' → St ω φ' H' h' → VR ω.K φ' h' v z → Q v { s with heap := h', toks := tk }) : wpAny ω.m A (call fv avs) Q E s := by
 have g : biVal n = some fv := by unfold gval at g; rw [if_pos hb'] at g; exact g
 refine invX e (fun hn e => ?_) fun _ e => invX e (fun hn e => ?_) fun _ e => invX e (fun hn e => ?_) fun _ e => invX e (fun hn e => ?_) fun _ e => invX e (fun hn e => ?_) fun _ e => invC e fun hn e => ?_
 all_goals (rw [hn] at g; cases g)
 ·apply bi2_ok (fun l => call (.builtin "max") l) a e
  intro i1 t1 i2 t2 ez eH
  subst eH
  refine wpAny_sz (max_two_ints R.han fun h' tk kk hs => k _ h' tk φ (Step.grow kk hs) (S.grow kk hs) ?_)
  rw [ez]
  by_cases c : i2 > i1
  ·rw [if_pos c, Int.max_eq_right (by omega)]; exact .int _ _
  ·rw [if_neg c, Int.max_eq_left (by omega)]; exact .int _ _
 ·apply bi2_ok (fun l => call (.builtin "min") l) a e
  intro i1 t1 i2 t2 ez eH
  subst eH
  refine wpAny_sz (min_two_ints R.han fun h' tk kk hs => k _ h' tk φ (Step.grow kk hs) (S.grow kk hs) ?_)
  rw [ez]
  by_cases c : i2 < i1
  ·rw [if_pos c, Int.min_eq_right (by omega)]; exact .int _ _
  ·rw [if_neg c, Int.min_eq_left (by omega)]; exact .int _ _
 ·refine inv_one e fun b e1 e => invI e fun i e2 e => ?_
  cases e
  apply a.oOne e1
  intro u x
  apply x.oInt e2
  refine fun t => call_abs_int fun u tk => k _ s.heap tk φ .refl S ?_
  rw [show (if i < 0 then -i else i) = i.natAbs by split <;> omega]; exact .int _ _
 ·refine inv_one e fun b e1 e => invL e fun i xs e2 hi e => ?_
  cases e
  apply a.oOne e1
  intro u x
  apply x.oObj e2
  refine fun l hl => S.lst hl hi fun _ cnt its h2 h3 h4 hz => call_len_list (items := its) ⟨_, h2, rfl, _, rfl⟩ (by omega) ?_
  rw [hz]
  exact k _ s.heap _ φ .refl S (.int _ _)
 ·refine inv_one e fun b e1 e => invob e fun i o e2 hi e => invoD e fun kvs e3 e => ?_
  cases e
  exact bi_dict Y R S a e1 e2 (e3 ▸ hi) k
 ·refine inv_one e fun b e1 e => invL e fun i xs e2 hi e => ?_
  cases e
  exact bi_list R S a e1 e2 hi k
end
end
end Mine
namespace Mine
section
open PySem PySem.W PyProof.Rows PySem.Calls
section
variable {ω : Gd} {φ φ' : List Lc} {H H₁ H₂ H₃ H₄ H' : MH} {h h' : Heap} {env : Env} {ρ ρ' ρ₁ ρ₂ : Loc} {r : Nat} {A : Around} {E : Value → Shared → Prop} {s : Shared} {z z₁ z₂ z₃ : V} {cf : CF}
inductive FlR (K : Frag) (φ : List Lc) (h : Heap) : Flow → Fl → Prop
 | next : FlR K φ h .next .next
 | brk : FlR K φ h .brk .brk
 | ret {v z} : VR K φ h v z → FlR K φ h (.ret v) (.ret z)
section
variable {K : Frag} {fl : Flow} {g : Fl} {P : Flow → Prop}
theorem FlR.oNext (x : FlR K φ h fl g) (e : g = .next) (k : P .next) : P fl := by subst e; cases x; exact k
theorem FlR.oBrk (x : FlR K φ h fl g) (e : g = .brk) (k : P .brk) : P fl := by subst e; cases x; exact k
theorem FlR.oRet (x : FlR K φ h fl g) (e : g = .ret z) (k : ∀ v, VR K φ h v z → P (.ret v)) : P fl := by
 subst e; cases x with
 | ret v => exact k _ v
end
theorem FlR.ofOwn {f : Flow} {g : Fl} (x : FlR ω.K φ h f g) (S : St ω φ H h) (F : FrOk ω env φ ρ h) (s : Step φ (Mine.own env) h φ' h') : FlR ω.K φ' h' f g := by
 cases x with
 | next => exact .next
 | brk => exact .brk
 | ret v => exact .ret (v.own S F s)
set_option backward.match.sparseCases false in
noncomputable def notSwap : Expr → Bool
 | .SetComp .. | .DictComp .. => false
 | _ => true
theorem getItem_ok {o : Nat} {v u : Value} {Q : Value → Shared → Prop} (S : St ω φ H s.heap) (x : VR ω.K φ s.heap v z₁) (eo : z₁ = .obj o) (y : VR ω.K φ s.heap u z₂) (e : subOf H z₁ z₂ = some z)
  (k : ∀ q tk, VR ω.K φ s.heap q z → Q q { s with toks := tk }) : wpAny ω.m A (getItem v u) Q E s := by
 refine invE e (fun e => invP e fun _ _ e1 _ => nomatch eo.symm.trans e1) fun e => invob e fun i o e1 ho e => invE e (fun e => invoL e fun xs e3 e => invI e fun j e2 e => ?_) fun e => invE e (fun e => invoD e fun kvs e3 e => invI e fun j e2 e => ?_) fun e => invoS e fun kvs e3 e => invS e fun j e2 e => ?_
 ·apply x.oObj e1
  intro l hl
  apply y.oInt e2
  exact fun t => S.lst hl (e3 ▸ ho) fun _ n its h2 h3 h4 hz => nth_ok ⟨_, h2, rfl, n, rfl⟩ h3 hz h4 e fun q r => k q s.toks r
 ·apply x.oObj e1
  intro l hl
  apply y.oInt e2
  refine fun t => S.idc hl (e3 ▸ ho) fun _ kv' ep h2 _ h4 _ _ => ?_
  refine hide fun Ψ kΨ => ?_
  obtain ⟨q, q1, q2⟩ := valueAt_k h4 e
  refine kΨ ?_
  exact wpAny_getItem_of (intKind_is ω.prog ω.w j t) h2.dictOf.mapOf q1 (k q _ q2)
 ·apply x.oObj e1
  intro l hl
  apply y.oStr e2
  refine fun t => S.sdc hl (e3 ▸ ho) fun kv' h2 h4 => ?_
  refine hide fun Ψ kΨ => ?_
  obtain ⟨q, q1, q2⟩ := valueAt_s h4 e
  refine kΨ ?_
  exact wpAny_getItem_of (PySem.strKind_is ω.prog ω.w j.str t) h2.mapOf q1 (k q _ q2)
noncomputable def SOk (ω : Gd) (r : Nat) (env : Env) (ρ : Loc) (H : MH) (t : Sem Flow) (f : Fl) (ρ' : Loc) (H' : MH) : Prop :=
 ∀ (A : Around) (E : Value → Shared → Prop) (s : Shared) (φ : List Lc) (Q : Flow → Shared → Prop), Room A r → St ω φ H s.heap → FrOk ω env φ ρ s.heap →
  (∀ fl h' tk φ', Step φ (own env) s.heap φ' h' → St ω φ' H' h' → FrOk ω env φ' ρ' h' → FlR ω.K φ' h' fl f → Q fl { s with heap := h', toks := tk }) → wpAny ω.m A t Q E s
noncomputable def CellsOk (env : Env) : Prop := ∀ x, (env.kindOf x = some .cell ∨ env.kindOf x = some .free) → ∃ c, env.cells.lookup x = some c
theorem S_nil : SOk ω r env ρ H (execs [] env) .next ρ H := fun A E s φ Q R S F k => wpAny_execs_nil (k _ s.heap s.toks φ .refl S F .next)
theorem S_cons {st : Stmt} {rest : List Stmt} {f g : Fl} (x : SOk ω r env ρ H (exec st env) f ρ₁ H₁) (y : (f = .next ∧ SOk ω r env ρ₁ H₁ (execs rest env) g ρ₂ H₂) ∨ (f ≠ .next ∧ g = f ∧ ρ₂ = ρ₁ ∧ H₂ = H₁)) : SOk ω r env ρ H (execs (st :: rest) env) g ρ₂ H₂ := fun A E s φ Q R S F k => by
 refine wpAny_execs_cons (x A E s φ _ R S F fun fl h1 t1 φ1 s1 S1 F1 v1 => ?_)
 rcases y with ⟨rfl, y⟩ | ⟨n, rfl, rfl, rfl⟩
 ·cases v1
  exact y A E _ φ1 _ R S1 F1 fun fl h2 t2 φ2 s2 S2 F2 v2 => k fl h2 t2 φ2 (s1.trans s2) S2 F2 v2
 ·cases v1 with
  | next => exact absurd rfl n
  | brk => exact k _ h1 t1 φ1 s1 S1 F1 .brk
  | ret v => exact k _ h1 t1 φ1 s1 S1 F1 (.ret v)
theorem swaps_of {e : Expr} {t : Option Expr} {line : Nat} (hc : isCompX e = false) (hs : notSwap e = true) : swapsWith e t line env = pure false := by
 cases e <;> first | rfl | (cases hc; done) | (cases hs; done)
theorem swaps_attr {e o : Expr} {n : Str} {p : Pos} {line : Nat} : swapsWith e (some (.Attribute o n p)) line env = pure false := by
 cases e <;> rfl
theorem swaps_sub {e o i : Expr} {p : Pos} {line : Nat} : swapsWith e (some (.Subscript o i p)) line env = pure false := by
 cases e <;> rfl
theorem S_expr {e : Expr} {pos : Pos} (hk : interactive env = false) (hc : isCompX e = false) (hs : notSwap e = true) (x : EOk ω r env ρ H (eval e env) z H₁) : SOk ω r env ρ H (exec (.Expr e pos) env) .next ρ H₁ := fun A E s φ Q R S F k => by
 refine wpAny_Expr_any (x A E s φ _ R S F fun v h1 t1 φ1 s1 S1 F1 v1 => ?_) hk (swaps_of hc hs)
 exact k _ h1 t1 φ1 s1 S1 F1 .next
theorem S_asg {x : Nm} {e : Expr} {pos pos' : Pos} (hk : env.kindOf x.str = some .local ∨ env.kindOf x.str = some .cell) (hC : CellsOk env) (hc : isCompX e = false) (hs : notSwap e = true) (x' : EOk ω r env ρ H (eval e env) z H₁) : SOk ω r env ρ H (exec (.Assign [.Name x.str pos'] e pos) env) .next (put x z ρ) H₁ := fun A E s φ Q R S F k => by
 refine wpAny_Assign_Name (x' A E s φ _ R S F fun v h1 t1 φ1 s1 S1 F1 v1 => ?_) (swaps_of hc hs)
 exact store_ok (s := ⟨h1, _, _, _, _⟩) hk (fun q => hC _ (.inl q)) S1 F1 v1 fun h2 t2 s2 S2 F2 _ => k _ h2 t2 φ1 (s1.trans s2) S2 F2 .next
theorem S_asgAttr (Y : Hy ω) (T : Tab ω.K) {o e : Expr} {n : Nm} {pos pos' : Pos} (x : EOk ω r env ρ H (eval e env) z H₁) (y : EOk ω r env ρ H₁ (eval o env) z₁ H₂) (a : setAttrV H₂ z₁ n z = some H₃) : SOk ω r env ρ H (exec (.Assign [.Attribute o n.str pos'] e pos) env) .next ρ H₃ := fun A E s φ Q R S F k => by
 refine plainObj_wpAny_Assign_Attribute (x A E s φ _ R S F fun v h1 t1 φ1 s1 S1 F1 v1 => ?_) swaps_attr
 refine y A E _ φ1 _ R S1 F1 fun u h2 t2 φ2 s2 S2 F2 u2 => ?_
 exact setAttr_ok (s := ⟨h2, _, _, _, _⟩) Y T S2 F2 u2 (v1.own S1 F1 s2) a fun h3 t3 s3 S3 F3 => k _ h3 t3 φ2 ((s1.trans s2).trans s3) S3 F3 .next
theorem S_asgSub {o i e : Expr} {pos pos' : Pos} (x : EOk ω r env ρ H (eval e env) z H₁) (y : EOk ω r env ρ H₁ (eval o env) z₁ H₂) (u : EOk ω r env ρ H₂ (eval i env) z₂ H₃) (a : setSubV H₃ z₁ z₂ z = some H₄) : SOk ω r env ρ H (exec (.Assign [.Subscript o i pos'] e pos) env) .next ρ H₄ := fun A E s φ Q R S F k => by
 refine wpAny_Assign_Subscript (x A E s φ _ R S F fun v h1 t1 φ1 s1 S1 F1 v1 => ?_) swaps_sub
 refine y A E _ φ1 _ R S1 F1 fun q h2 t2 φ2 s2 S2 F2 q2 => ?_
 refine u A E _ φ2 _ R S2 F2 fun p h3 t3 φ3 s3 S3 F3 p3 => ?_
 refine setSub_ok (s := ⟨h3, _, _, _, _⟩) S3 (q2.own S2 F2 s3) p3 ((v1.own S1 F1 s2).own S2 F2 s3) a fun h4 t4 s4 S4 => ?_
 exact k _ h4 t4 φ3 (((s1.trans s2).trans s3).trans s4.wide) S4 (F3.step S3 s4) .next
theorem aug_ok {op : Operator} {o : Op} (ho : opOf op = some o) {a b c : Int} {v u : Value} (x : VR ω.K φ h v (.int a)) (y : VR ω.K φ h u (.int b)) (e : augV o a b = some c) {Q : Value → Shared → Prop} (k : ∀ t tk, Q (.int c t) { s with toks := tk }) : wpAny ω.m A (inplaceOp op v u) Q E s := by
 apply x.two rfl y rfl
 intro t t'
 cases o with
 | add => rw [opInv_of ho]; cases e; exact iadd_int (k _ _)
 | sub => rw [opInv_of ho]; cases e; exact isub_int (k _ _)
 | _ => cases e
theorem S_augLoc {x : Nm} {e : Expr} {op : Operator} {o : Op} {pos pos' : Pos} {a b c : Int} (ho : opOf op = some o) (hk : env.kindOf x.str = some .local) (g : get x ρ = some (.int a)) (y : EOk ω r env ρ H (eval e env) (.int b) H₁) (u : augV o a b = some c) : SOk ω r env ρ H (exec (.AugAssign (.Name x.str pos') op e pos) env) .next (put x (.int c) ρ) H₁ := fun A E s φ Q R S F k => by
 refine wpAny_AugAssign_Name ?_
 refine hide fun Ψ kΨ => ?_
 obtain ⟨m, n, l⟩ := F.ns
 obtain ⟨v, e1, e2⟩ := l x _ g hk
 refine kΨ ?_
 refine wpAny_loadName_local F.kind hk n e1 (y A E s φ _ R S F fun q h1 t1 φ1 s1 S1 F1 q1 => ?_)
 refine aug_ok ho (e2.own S F s1) q1 u fun t tk => ?_
 exact store_ok (s := ⟨h1, _, _, _, _⟩) (.inl hk) (fun q => by rw [hk] at q; cases q) S1 F1 (.int c t) fun h2 t2 s2 S2 F2 _ => k _ h2 t2 φ1 (s1.trans s2) S2 F2 .next
theorem S_augAttr (Y : Hy ω) (T : Tab ω.K) {o e : Expr} {n : Nm} {op : Operator} {oo : Op} {pos pos' : Pos} {a b c : Int} (ho : opOf op = some oo) (x : EOk ω r env ρ H (eval o env) z H₁) (g : attrOf H₁ z n = some (.int a)) (y : EOk ω r env ρ H₁ (eval e env) (.int b) H₂) (u : augV oo a b = some c) (q : setAttrV H₂ z n (.int c) = some H₃) : SOk ω r env ρ H (exec (.AugAssign (.Attribute o n.str pos') op e pos) env) .next ρ H₃ := fun A E s φ Q R S F k => by
 refine wpAny_AugAssign_AttributeAny (x A E s φ _ R S F fun v h1 t1 φ1 s1 S1 F1 v1 => ?_)
 refine attr_ok (s := ⟨h1, _, _, _, _⟩) Y T S1 F1 v1 g fun old o1 => ?_
 refine y A E _ φ1 _ R S1 F1 fun p h2 t2 φ2 s2 S2 F2 p2 => ?_
 refine aug_ok ho (o1.own S1 F1 s2) p2 u fun t tk => ?_
 exact setAttr_ok (s := ⟨h2, _, _, _, _⟩) Y T S2 F2 (v1.own S1 F1 s2) (.int c t) q fun h3 t3 s3 S3 F3 => k _ h3 t3 φ2 ((s1.trans s2).trans s3) S3 F3 .next
theorem augStore_of {i : Expr} (hn : notSlice i = true) (ov iv new : Value) : augStore i ov iv new = (do holding [new, ov, iv] (setItem ov iv new); release [new, ov, iv] []; pure .next) := by
 cases i <;> first | rfl | cases hn
theorem S_augSub {o i e : Expr} {op : Operator} {oo : Op} {pos pos' : Pos} {a b c : Int} (ho : opOf op = some oo) (hi : notSlice i = true) (x : EOk ω r env ρ H (eval o env) z H₁) (y : EOk ω r env ρ H₁ (eval i env) z₁ H₂) (g : subOf H₂ z z₁ = some (.int a)) (y2 : EOk ω r env ρ H₂ (eval e env) (.int b) H₃) (u : augV oo a b = some c) (q : setSubV H₃ z z₁ (.int c) = some H₄) : SOk ω r env ρ H (exec (.AugAssign (.Subscript o i pos') op e pos) env) .next ρ H₄ := fun A E s φ Q R S F k => by
 refine wpAny_AugAssign_SubscriptAny (x A E s φ _ R S F fun v h1 t1 φ1 s1 S1 F1 v1 => ?_) (augStore_of hi)
 refine y A E _ φ1 _ R S1 F1 fun iv h2 t2 φ2 s2 S2 F2 iv2 => ?_
 obtain ⟨oz, ez⟩ : ∃ o, z = .obj o := invI q fun _ _ q => invR q fun i e _ => ⟨i, e⟩
 refine getItem_ok (s := ⟨h2, _, _, _, _⟩) S2 (v1.own S1 F1 s2) ez iv2 g fun old t2 o2 => ?_
 refine y2 A E _ φ2 _ R S2 F2 fun p h3 t3 φ3 s3 S3 F3 p3 => ?_
 refine aug_ok ho (o2.own S2 F2 s3) p3 u fun t tk => ?_
 refine setSub_ok (s := ⟨h3, _, _, _, _⟩) S3 ((v1.own S1 F1 s2).own S2 F2 s3) (iv2.own S2 F2 s3) (.int c t) q fun h4 t4 s4 S4 => ?_
 exact k _ h4 t4 φ3 (((s1.trans s2).trans s3).trans s4.wide) S4 (F3.step S3 s4) .next
theorem S_ifs {t : Expr} {b o : List Stmt} {pos : Pos} {c : Bool} {f : Fl} (x : TOk ω r env ρ H (isTrue t env (eval t env)) c H₁) (y : if c = true then SOk ω r env ρ H₁ (execs b env) f ρ₁ H₂ else SOk ω r env ρ H₁ (execs o env) f ρ₁ H₂) : SOk ω r env ρ H (exec (.If t b o pos) env) f ρ₁ H₂ := fun A E s φ Q R S F k => by
 refine wpAny_If (x A E s φ _ R S F fun h1 t1 φ1 s1 S1 F1 => ?_)
 cases c
 ·exact y A E _ φ1 _ R S1 F1 fun fl h2 t2 φ2 s2 S2 F2 v2 => k fl h2 t2 φ2 (s1.trans s2) S2 F2 v2
 ·exact y A E _ φ1 _ R S1 F1 fun fl h2 t2 φ2 s2 S2 F2 v2 => k fl h2 t2 φ2 (s1.trans s2) S2 F2 v2
theorem inOrder_ok {x y : Nm} {px py : Pos} {u v : Value} {Q : Unit → Shared → Prop} (hx : env.kindOf x.str = some .local) (hy : env.kindOf y.str = some .local) (S : St ω φ H s.heap) (F : FrOk ω env φ ρ s.heap) (xu : VR ω.K φ s.heap u z₁) (xv : VR ω.K φ s.heap v z₂)
  (k : ∀ h' tk, Step φ (own env) s.heap φ h' → St ω φ H h' → FrOk ω env φ (put y z₂ (put x z₁ ρ)) h' → Q () { s with heap := h', toks := tk }) : wpAny ω.m A (assignInOrder [assign (.Name x.str px) env, assign (.Name y.str py) env] [u, v]) Q E s := by
 show wpAny _ _ (do holding [v] (assign (.Name x.str px) env u); do holding [] (assign (.Name y.str py) env v); assignInOrder [] []) _ _ _
 refine wpAny_bind (wpAny_holding (wpAny_assign_Name (store_ok (.inl hx) (fun q => by rw [hx] at q; cases q) S F xu fun h1 t1 s1 S1 F1 _ => ?_)))
 refine wpAny_bind (wpAny_holding (wpAny_assign_Name (store_ok (s := ⟨h1, _, _, _, _⟩) (.inl hy) (fun q => by rw [hy] at q; cases q) S1 F1 (xv.own S F s1) fun h2 t2 s2 S2 F2 _ => ?_)))
 exact wpAny_pure (k h2 t2 (s1.trans s2) S2 F2)
theorem assign2_go {x y : Nm} {kk : Nat} {px py tpos : Pos} {a : Addr} {u v : Value} {Q : Unit → Shared → Prop} (hx : env.kindOf x.str = some .local) (hy : env.kindOf y.str = some .local) (S : St ω φ H s.heap) (F : FrOk ω env φ ρ s.heap) (xu : VR ω.K φ s.heap u z₁) (xv : VR ω.K φ s.heap v z₂)
  (un : ∀ {E : Value → Shared → Prop} {Q : List Value → Shared → Prop}, (∀ h', Heap.ExtBut s.heap.objs.size s.heap h' → Q [u, v] { s with heap := h' }) → wpAny ω.m A (unpackItems (.ref a) 2 none) Q E s)
  (k : ∀ h' tk, Step φ (own env) s.heap φ h' → St ω φ H h' → FrOk ω env φ (put y z₂ (put x z₁ ρ)) h' → Q () { s with heap := h', toks := tk }) : wpAny ω.m A (assign (.Tuple [.Name x.str px, .Name y.str py] kk tpos) env (.ref a)) Q E s := by
 show wpAny _ _ (do standAt tpos; let items ← holding [_] (unpackItems _ 2 none); assignInOrder [assign (.Name x.str px) env, assign (.Name y.str py) env] items) _ _ _
 refine wpAny_bind (wpAny_standAt (wpAny_bind (wpAny_holding (wpAny_sz (un fun h1 e1 hs => ?_)))))
 have kk : ∀ a o, s.heap.get? a = some o → h1.get? a = some o := fun a o ea => e1 a o (Nat.ne_of_lt (Heap.lt_size ea)) ea
 have G := Step.grow (φ := φ) kk hs
 exact inOrder_ok (s := ⟨h1, _, _, _, _⟩) hx hy (S.grow kk hs) (F.step S G) (xu.step S G (fun _ m => nomatch m)) (xv.step S G (fun _ m => nomatch m)) fun h2 t2 s2 S2 F2 => k h2 t2 (G.wide.trans s2) S2 F2
theorem assign2_ok {x y : Nm} {kk : Nat} {px py tpos : Pos} {v : Value} {Q : Unit → Shared → Prop} (hx : env.kindOf x.str = some .local) (hy : env.kindOf y.str = some .local) (R : Room A r) (S : St ω φ H s.heap) (F : FrOk ω env φ ρ s.heap) (xv : VR ω.K φ s.heap v z) (hz : z = .pair z₁ z₂ ∨ ∃ i, z = .obj i ∧ H[i]? = some (.list [z₁, z₂]))
  (k : ∀ h' tk, Step φ (own env) s.heap φ h' → St ω φ H h' → FrOk ω env φ (put y z₂ (put x z₁ ρ)) h' → Q () { s with heap := h', toks := tk }) : wpAny ω.m A (assign (.Tuple [.Name x.str px, .Name y.str py] kk tpos) env v) Q E s := by
 rcases hz with e | ⟨i, e, hi⟩
 ·apply xv.oPair e
  exact fun a u w t xu xw => assign2_go hx hy S F xu xw (unpackItems_tuple (items := #[u, w]) R.han t) k
 ·apply xv.oObj e
  refine fun l hl => S.lst hl hi fun _ n its h2 h3 _ _ => ?_
  refine hide fun Ψ kΨ => ?_
  obtain ⟨u, w, e5, xu, xw⟩ := h3.oTwo rfl (P := fun l => ∃ u w, l = [u, w] ∧ VR ω.K φ s.heap u z₁ ∧ VR ω.K φ s.heap w z₂) fun a d x y => ⟨a, d, rfl, x, y⟩
  refine kΨ ?_
  have e6 : its = #[u, w] := by rw [← Array.toArray_toList (xs := its), e5]
  exact assign2_go hx hy S F xu xw (kun_itemsOf (items := #[u, w]) R.han ⟨_, e6 ▸ h2, rfl, _, rfl⟩) k
theorem swapped_of {ts : List Expr} {kk : Nat} {tpos : Pos} {e : Expr} (ht : isTupleX e = false) : swappedStores [.Tuple ts kk tpos] e env = pure none := by
 cases e <;> first | rfl | (cases ht; done)
theorem S_asg2 {x y : Nm} {e : Expr} {kk : Nat} {px py tpos pos : Pos} (hx : env.kindOf x.str = some .local) (hy : env.kindOf y.str = some .local) (hc : isCompX e = false) (hs : notSwap e = true) (ht : isTupleX e = false) (x' : EOk ω r env ρ H (eval e env) z H₁)
  (hz : z = .pair z₁ z₂ ∨ ∃ i, z = .obj i ∧ H₁[i]? = some (.list [z₁, z₂])) : SOk ω r env ρ H (exec (.Assign [.Tuple [.Name x.str px, .Name y.str py] kk tpos] e pos) env) .next (put y z₂ (put x z₁ ρ)) H₁ := fun A E s φ Q R S F k => by
 refine Assign_Tuple (x' A E s φ _ R S F fun v h1 t1 φ1 s1 S1 F1 v1 => ?_) (by unfold swapsWithSole; exact swaps_of hc hs) (swapped_of ht)
 exact assign2_ok (s := ⟨h1, _, _, _, _⟩) hx hy R S1 F1 v1 hz fun h2 t2 s2 S2 F2 => k _ h2 t2 φ1 (s1.trans s2) S2 F2 .next
theorem S_ret {e : Expr} {pos : Pos} (x : EOk ω r env ρ H (eval e env) z H₁) : SOk ω r env ρ H (exec (.Return (some e) pos) env) (.ret z) ρ H₁ := fun A E s φ Q R S F k => by
 exact wpAny_Return_some (x A E s φ _ R S F fun v h1 t1 φ1 s1 S1 F1 v1 => k _ h1 t1 φ1 s1 S1 F1 (.ret v1))
theorem S_ret0 {pos : Pos} : SOk ω r env ρ H (exec (.Return none pos) env) (.ret .none) ρ H := fun A E s φ Q R S F k => wpAny_Return_none (k _ s.heap s.toks φ .refl S F (.ret .none))
theorem S_brk {pos : Pos} : SOk ω r env ρ H (exec (.Break pos) env) .brk ρ H := fun A E s φ Q R S F k => wpAny_Break (k _ s.heap s.toks φ .refl S F .brk)
end
end
end Mine
namespace Mine
section
open PySem PySem.W PyProof.Rows PySem.Calls
section
variable {ω : Gd} {φ₀ φ φ' : List Lc} {H₀ H H₁ H₂ H₃ H₄ H' : MH} {h h' : Heap} {env : Env} {ρ ρ' ρ₁ ρ₂ : Loc} {r : Nat} {A : Around} {E : Value → Shared → Prop} {s : Shared} {z z₁ z₂ z₃ : V} {cf : CF}
theorem FrOk.move (F : FrOk ω env φ ρ h) (pre : φ <+: φ') (kt : ∀ a its, IsTup h a its → IsTup h' a its) (ko : ∀ a ∈ own env, ∀ o, h.get? a = some o → h'.get? a = some o)
  (off : ∀ a ∈ own env, a ∉ φ'.map (·.d) ∧ a ∉ φ'.map (·.a)) (hρ : ∀ x, get x ρ' = get x ρ) : FrOk ω env φ' ρ' h' := by
 have t : ∀ v x, VR ω.K φ h v x → VR ω.K φ' h' v x := fun v x z => z.mono pre kt
 have kc : ∀ p ∈ env.cells, ∀ v, h.IsCell p.2 v → h'.IsCell p.2 v := fun p m v ⟨o, ho, hd⟩ => ⟨o, ko _ (List.mem_cons_of_mem _ (List.mem_map_of_mem (f := fun p : Str × Addr => p.2) m)) o ho, hd⟩
 refine hide fun Ψ kΨ => ?_
 obtain ⟨m, ⟨o', es, ep, ho', n⟩, l⟩ := F.ns
 refine kΨ ?_
 have mem : ∀ {x c}, env.cells.lookup x = some c → (x, c) ∈ env.cells := fun e => by
  refine hide fun Ψ kΨ => ?_
  obtain ⟨l1, l2, h1, h2⟩ := List.lookup_eq_some_iff.mp e
  refine kΨ ?_
  rw [h1]; simp
 refine ⟨F.kind, F.glob, F.blt, ⟨m, ⟨o', es, ep, ko _ (.head _) _ ho', n⟩, fun x V e ek => ?_⟩, fun x c e => ?_, fun x V e ek => ?_, fun p hp => ?_, F.nd, fun a m => ⟨(off a m).1, (off a m).2, (F.off a m).2.2⟩⟩
 ·refine hide fun Ψ kΨ => ?_
  obtain ⟨v, e1, e2⟩ := l x V (hρ x ▸ e) ek
  refine kΨ ?_
  exact ⟨v, e1, t _ _ e2⟩
 ·obtain ⟨v, hv⟩ := F.cel x c e
  exact ⟨v, kc _ (mem e) v hv⟩
 ·refine hide fun Ψ kΨ => ?_
  obtain ⟨c, v, e1, e2, e3⟩ := F.celv x V (hρ x ▸ e) ek
  refine kΨ ?_
  exact ⟨c, v, e1, kc _ (mem e1) _ e2, t _ _ e3⟩
 ·obtain ⟨v, hv⟩ := F.celm p hp
  exact ⟨v, kc p hp v hv⟩
structure Aside (hb : Heap) (φ : List Lc) (env : Env) (h : Heap) (I : Addr) : Prop where
 lt : I < h.objs.size
 lo : hb.objs.size ≤ I
 d : I ∉ φ.map (·.d)
 a : I ∉ φ.map (·.a)
 own : I ∉ own env
 tup : ∀ its, ¬ IsTup h I its
theorem Aside.step {I : Addr} {o : Obj} (N : Aside ω.hb φ env h I) (s : Step φ (Mine.own env) h φ' h') (ho : h.get? I = some o) : Aside ω.hb φ' env h' I ∧ h'.get? I = some o := by
 have k := s.keep I o ho N.d N.own
 refine ⟨⟨Nat.lt_of_lt_of_le N.lt s.size, N.lo, fun q => ?_, fun q => ?_, N.own, fun its ⟨o', ho', r⟩ => ?_⟩, k⟩
 ·refine hide fun Ψ kΨ => ?_
  obtain ⟨l, ml, e⟩ := List.mem_map.mp q
  refine kΨ ?_
  rcases s.fresh l ml with z | z
  ·exact N.d (e ▸ List.mem_map_of_mem (f := fun l : Lc => l.d) z)
  ·rw [e] at z; exact absurd N.lt (Nat.not_lt.mpr z.1)
 ·refine hide fun Ψ kΨ => ?_
  obtain ⟨l, ml, e⟩ := List.mem_map.mp q
  refine kΨ ?_
  rcases s.fresh l ml with z | z
  ·exact N.a (e ▸ List.mem_map_of_mem (f := fun l : Lc => l.a) z)
  ·rw [e] at z; exact absurd N.lt (Nat.not_lt.mpr z.2)
 ·rw [k] at ho'
  cases ho'
  exact N.tup its ⟨o, ho, r⟩
theorem Aside.moved {I : Addr} (N : Aside ω.hb φ env h I) (S : St ω φ H h) (F : FrOk ω env φ ρ h) (k : ∀ a o, a ≠ I → h.get? a = some o → h'.get? a = some o) (hs : h.objs.size ≤ h'.objs.size) :
  St ω φ H h' ∧ FrOk ω env φ ρ h' ∧ (∀ v z, VR ω.K φ h v z → VR ω.K φ h' v z) := by
 have kt : ∀ a its, IsTup h a its → IsTup h' a its := fun a its T => by
  have T' := T
  refine hide fun Ψ kΨ => ?_
  obtain ⟨o, ho, r⟩ := T
  refine kΨ ?_
  exact ⟨o, k a o (fun q => N.tup its (q ▸ T')) ho, r⟩
 refine ⟨?_, F.move (List.prefix_refl _) kt (fun a m o e => k a o (fun q => N.own (q ▸ m)) e) (fun a m => ⟨(F.off a m).1, (F.off a m).2.1⟩) (fun _ => rfl), fun v z x => x.mono (List.prefix_refl _) kt⟩
 refine (growX (X := [I]) S (fun x m => ?_) (fun a o e n => k a o (by simpa using n) e) hs).1
 rw [List.mem_singleton.mp m]
 refine ⟨N.tup, N.a, N.d, ?_⟩
 cases q : ω.hb.get? I with
 | none => rfl
 | some _ => exact absurd (Heap.lt_size q) (Nat.not_lt.mpr N.lo)
theorem Step.aside {X : List Addr} {h₀ : Heap} {I : Addr} (s : Step φ₀ X h₀ φ h) (hI : h₀.objs.size ≤ I) (k : ∀ a o, a ≠ I → h.get? a = some o → h'.get? a = some o) (hs : h.objs.size ≤ h'.objs.size) : Step φ₀ X h₀ φ h' :=
 ⟨s.pre, fun a o e n m => k a o (Nat.ne_of_lt (Nat.lt_of_lt_of_le (Heap.lt_size e) hI)) (s.keep a o e n m), Nat.le_trans s.size hs, s.fresh⟩
theorem Aside.new {o : Obj} (S : St ω φ H h) (F : FrOk ω env φ ρ h) (hc : o.cls ≠ .type "tuple") (hf : o.isFreed = false) : Aside ω.hb φ env (h.push o) h.objs.size := by
 refine ⟨by rw [Heap.size_push]; exact Nat.lt_succ_self _, S.size, fun q => ?_, fun q => ?_, fun q => absurd (F.own_lt _ q) (Nat.lt_irrefl _), fun its ⟨o', ho', hc', _⟩ => ?_⟩
 ·refine hide fun Ψ kΨ => ?_
  obtain ⟨l, ml, e⟩ := List.mem_map.mp q
  refine kΨ ?_
  have := (S.lt ml).1
  rw [e] at this
  exact absurd this (Nat.lt_irrefl _)
 ·refine hide fun Ψ kΨ => ?_
  obtain ⟨l, ml, e⟩ := List.mem_map.mp q
  refine kΨ ?_
  have := (S.lt ml).2
  rw [e] at this
  exact absurd this (Nat.lt_irrefl _)
 ·rw [Heap.get?_push_size _ hf] at ho'
  cases ho'
  exact hc hc'
structure Itr (ω : Gd) (φ₀ : List Lc) (I : Addr) (ok : MH → Bool) (items : List V) (P : Nat → Heap → Prop) : Prop where
 ob : ∀ j h, P j h → ∃ o, h.get? I = some o
 self : ∀ j (A : Around) (E : Value → Shared → Prop) (s : Shared) (Q : Value → Shared → Prop), P j s.heap → Q (.ref I) s → wpAny ω.m A (pyIter (.ref I)) Q E s
 notTup : ∀ j h, P j h → ∀ its, ¬ IsTup h I its
 at_ : ∀ j h h', P j h → (∀ o, h.get? I = some o → h'.get? I = some o) → P j h'
 item : ∀ j z (A : Around) (E : Value → Shared → Prop) (s : Shared) (φ : List Lc) (H : MH) (Q : Option Value → Shared → Prop) (r : Nat), Room A r → P j s.heap → φ₀ <+: φ → St ω φ H s.heap → ok H = true → items[j]? = some z →
  (∀ v h' tk, P (j + 1) h' → (∀ a o, a ≠ I → s.heap.get? a = some o → h'.get? a = some o) → VR ω.K φ s.heap v z → Q (some v) { s with heap := h', toks := tk }) → wpAny ω.m A (pyNext (.ref I)) Q E s
 fin : ∀ j (A : Around) (E : Value → Shared → Prop) (s : Shared) (φ : List Lc) (H : MH) (Q : Option Value → Shared → Prop) (r : Nat), Room A r → P j s.heap → φ₀ <+: φ → St ω φ H s.heap → ok H = true → items[j]? = none → j ≤ items.length →
  (∀ h' tk, (∀ a o, a ≠ I → s.heap.get? a = some o → h'.get? a = some o) → Q none { s with heap := h', toks := tk }) → wpAny ω.m A (pyNext (.ref I)) Q E s
noncomputable def Turn (ω : Gd) (r : Nat) (env : Env) (I : Addr) (P : Nat → Heap → Prop) (target : Expr) (body : List Stmt) (turn : V → Loc → MH → Res) : Prop :=
 ∀ z ρ H f ρ' H', turn z ρ H = some (f, ρ', H') → ∀ (A : Around) (E : Value → Shared → Prop) (s : Shared) (φ : List Lc) (v : Value) (Q : Flow → Shared → Prop) (j : Nat), Room A r → P j s.heap → St ω φ H s.heap → FrOk ω env φ ρ s.heap → VR ω.K φ s.heap v z →
  (∀ fl h' tk φ', Step φ (own env) s.heap φ' h' → St ω φ' H' h' → FrOk ω env φ' ρ' h' → FlR ω.K φ' h' fl f → Q fl { s with heap := h', toks := tk }) →
  wpAny ω.m A (letOwnedTupleGo target (.ref I) v) (fun _ s₁ => wpAny ω.m A (assign target env v) (fun _ s₂ => wpAny ω.m A (execs body env) Q E s₂) E s₁) E s
theorem drop_cons_of {α : Type} {l : List α} {j : Nat} {x : α} (e : l[j]? = some x) : l.drop j = x :: l.drop (j + 1) := by
 obtain ⟨h, e⟩ := List.getElem?_eq_some_iff.mp e
 rw [List.drop_eq_getElem_cons h, e]
theorem forG_ok {I : Addr} {ok : MH → Bool} {items : List V} {P : Nat → Heap → Prop} {target : Expr} {body : List Stmt} {turn : V → Loc → MH → Res} {f : Fl} {Rr : Result → Shared → Prop}
  (It : Itr ω φ₀ I ok items P) (T : Turn ω r env I P target body turn) (R : Room A r) {h₀ : Heap} (s₀ : Step φ₀ (own env) h₀ φ s.heap) (hI : h₀.objs.size ≤ I) (N : Aside ω.hb φ env s.heap I) (p0 : P 0 s.heap) (S : St ω φ H s.heap) (F : FrOk ω env φ ρ s.heap)
  (e : forG turn ok items ρ H = some (f, ρ', H'))
  (k : ∀ fl h' tk φ', Step φ₀ (own env) h₀ φ' h' → St ω φ' H' h' → FrOk ω env φ' ρ' h' → FlR ω.K φ' h' fl f → Rr (.ok fl) { s with heap := h', toks := tk }) :
  codeAny ω.m A (.forLoop target (.ref I) body [] env) Rr s := by
 let Inv : Nat → Shared → Prop := fun n s' => ∃ (j : Nat) (φ : List Lc) (ρ : Loc) (H : MH) (hp : Heap) (tk : Nat), s' = { s with heap := hp, toks := tk } ∧ n + j = items.length ∧ P j hp ∧ St ω φ H hp ∧ FrOk ω env φ ρ hp ∧ Aside ω.hb φ env hp I ∧ Step φ₀ (own env) h₀ φ hp ∧ forG turn ok (items.drop j) ρ H = some (f, ρ', H')
 refine codeAny_forLoop_any Inv (fun n s' inv => ?_) items.length ⟨0, φ, ρ, H, s.heap, s.toks, rfl, rfl, p0, S, F, N, s₀, e⟩
 refine hide fun Ψ kΨ => ?_
 obtain ⟨j, φ, ρ, H, hp, tk, rfl, hn, pj, S, F, N, s1, e⟩ := inv
 refine kΨ ?_
 cases hj : items[j]? with
 | none =>
  have hlen : items.length ≤ j := List.getElem?_eq_none_iff.mp hj
  rw [List.drop_eq_nil_of_le hlen] at e
  refine invC e fun hok e => ?_
  cases e
  refine wpAny_sz (It.fin j A _ _ φ _ _ r R pj s1.pre S hok hj (by omega) fun h' tk' kk hs => ?_)
  refine hide fun Ψ kΨ => ?_
  obtain ⟨S', F', _⟩ := N.moved S F kk hs
  refine kΨ ?_
  exact wpAny_execs_nil (k .next h' tk' φ (s1.aside hI kk hs) S' F' .next)
 | some z =>
  rw [drop_cons_of hj] at e
  refine invC e fun hok e => ?_
  refine wpAny_sz (It.item j z A _ _ φ _ _ r R pj s1.pre S hok hj fun v h1 t1 p1 kk xv hs => ?_)
  refine hide fun Ψ kΨ => ?_
  obtain ⟨S1, F1, x1⟩ := N.moved S F kk hs
  have s2 := s1.aside hI kk hs
  obtain ⟨o1, ho1⟩ := It.ob _ _ p1
  refine kΨ ?_
  have N1 : Aside ω.hb φ env h1 I := ⟨Nat.lt_of_lt_of_le N.lt hs, N.lo, N.d, N.a, N.own, fun its q => It.notTup _ _ p1 its q⟩
  have hjl := (List.getElem?_eq_some_iff.mp hj).1
  refine inv_lp e (fun ρ1 H1 ht e => ?_) (fun ht ef => ?_) fun q ht ef => ?_
  ·refine T z ρ H _ ρ1 H1 ht A _ { s with heap := h1, toks := t1 } φ v _ (j + 1) R p1 S1 F1 (x1 _ _ xv) fun fl h2 t2 φ2 s3 S2 F2 v2 => ?_
   apply v2.oNext rfl
   obtain ⟨N2, ho2⟩ := N1.step s3 ho1
   exact ⟨n - 1, by omega, j + 1, φ2, ρ1, H1, h2, t2, rfl, by omega, It.at_ _ _ _ p1 (fun o ho => by rw [ho1] at ho; cases ho; exact ho2), S2, F2, N2, s2.trans s3, e⟩
  ·refine T z ρ H _ ρ' H' ht A _ { s with heap := h1, toks := t1 } φ v _ (j + 1) R p1 S1 F1 (x1 _ _ xv) fun fl h2 t2 φ2 s3 S2 F2 v2 => ?_
   apply v2.oBrk rfl
   exact k _ h2 t2 φ2 (s2.trans s3) S2 F2 (ef ▸ .next)
  ·refine T z ρ H _ ρ' H' ht A _ { s with heap := h1, toks := t1 } φ v _ (j + 1) R p1 S1 F1 (x1 _ _ xv) fun fl h2 t2 φ2 s3 S2 F2 v2 => ?_
   apply v2.oRet rfl
   exact fun u xu => k _ h2 t2 φ2 (s2.trans s3) S2 F2 (ef ▸ .ret xu)
theorem forL_forG {turn : V → Loc → MH → Res} : ∀ (l : List V) (ρ : Loc) (H : MH), forL turn l ρ H = forG turn (fun _ => true) l ρ H
 | [], ρ, H => (if_pos rfl).symm
 | v :: l, ρ, H => (congrArg (lp (turn v ρ H)) (funext fun ρ => funext fun H => forL_forG l ρ H)).trans (if_pos rfl).symm
end
end
end Mine
namespace Mine
section
open PySem PySem.W PyProof.Rows PySem.Calls
section
variable {ω : Gd} {φ₀ φ φ' : List Lc} {H₀ H H₁ H₂ H₃ H₄ H' : MH} {h h' : Heap} {env : Env} {ρ ρ' ρ₁ ρ₂ : Loc} {r : Nat} {A : Around} {E : Value → Shared → Prop} {s : Shared} {z z₁ z₂ z₃ : V} {cf : CF}
theorem okV_obj {i : Nat} (e : okV H₀ (.obj i) H = true) : H[i]? = H₀[i]? := by simpa [okV] using e
theorem itr_list {i : Nat} {l : Lc} {xs : List V} {I : Addr} (hl : φ₀[i]? = some l) (hi : H₀[i]? = some (.list xs)) :
  Itr ω φ₀ I (okV H₀ (.obj i)) xs (fun j h => h.IsListIter I l.a j) where
 self := fun j A E s Q p q => wpAny_pyIter_listiter p q
 ob := fun j h ⟨o, ho, _⟩ => ⟨o, ho⟩
 notTup := fun j h ⟨o, ho, hc, _⟩ its ⟨o', ho', hc', _⟩ => by rw [ho] at ho'; cases ho'; rw [hc] at hc'; exact absurd hc' (by decide)
 at_ := fun j h h' ⟨o, ho, x⟩ k => ⟨o, k o ho, x⟩
 item := fun j z A E s φ H Q r R p pre S ok hj k => by
  have e := okV_obj ok
  rw [hi] at e
  refine hide fun Ψ kΨ => ?_
  obtain ⟨l', hl', e1, cnt, its, e2, e3, e4⟩ := S.lc e
  refine kΨ ?_
  rw [pre_get pre hl] at hl'
  cases hl'
  refine hide fun Ψ kΨ => ?_
  obtain ⟨v, v1, v2⟩ := e3.get hj
  refine kΨ ?_
  refine wpAny_pyNext_list_item p ⟨_, e2, rfl, _, rfl⟩ (by simpa using v1) fun h' p' hs => ?_
  exact k v h' s.toks p' (fun a o n e => (hs.2 a n).trans e) v2
 fin := fun j A E s φ H Q r R p pre S ok hj _ k => by
  have e := okV_obj ok
  rw [hi] at e
  refine hide fun Ψ kΨ => ?_
  obtain ⟨l', hl', e1, cnt, its, e2, e3, e4⟩ := S.lc e
  refine kΨ ?_
  rw [pre_get pre hl] at hl'
  cases hl'
  have hz := e3.length
  rw [Array.length_toList] at hz
  refine wpAny_pyNext_list_end R.han p ⟨_, e2, rfl, _, rfl⟩ (by rw [Array.getElem?_eq_none_iff]; have := List.getElem?_eq_none_iff.mp hj; omega) fun h' hs => ?_
  exact k h' s.toks fun a o n e => hs a o n e
theorem itr_dict {i : Nat} {l : Lc} {kvs : List (Int × V)} {I : Addr} (hl : φ₀[i]? = some l) (hi : H₀[i]? = some (.idict kvs)) {ep : Nat} (he : (ep : Int) = l.e + kvs.length) :
  Itr ω φ₀ I (okV H₀ (.obj i)) (kvs.map fun p => .int p.1) (fun j h => h.IsKeyIter I l.a j kvs.length ep) where
 self := fun j A E s Q p q => wpAny_pyIter_keyiter p q
 ob := fun j h ⟨o, ho, _⟩ => ⟨o, ho⟩
 notTup := fun j h ⟨o, ho, hc, _⟩ its ⟨o', ho', hc', _⟩ => by rw [ho] at ho'; cases ho'; rw [hc] at hc'; exact absurd hc' (by decide)
 at_ := fun j h h' ⟨o, ho, x⟩ k => ⟨o, k o ho, x⟩
 item := fun j z A E s φ H Q r R p pre S ok hj k => by
  have e := okV_obj ok
  rw [hi] at e
  refine hide fun Ψ kΨ => ?_
  obtain ⟨l', hl', e1, kv', ep', e2, e3, e4, e5⟩ := S.lc e
  refine kΨ ?_
  rw [pre_get pre hl] at hl'
  cases hl'
  have : ep' = ep := by omega
  subst this
  rw [List.getElem?_map] at hj
  refine hide fun Ψ kΨ => ?_
  obtain ⟨q, hq, rfl⟩ := Option.map_eq_some_iff.mp hj
  obtain ⟨⟨a, v⟩, v1, v2, v3⟩ := e4.get hq
  refine kΨ ?_
  dsimp only at v2
  subst v2
  have hz := e4.length
  refine wpAny_pyNext_dict_item (kvs := kv') (by rw [hz]; exact p) e2 v1 fun key h' hk p' hs => ?_
  rw [hz] at p'
  obtain ⟨t, rfl⟩ := Value.isInt_shape (show Value.isInt q.1 key = true from hk)
  exact k _ h' s.toks p' (fun a o n e => (hs.2 a n).trans e) (.int _ _)
 fin := fun j A E s φ H Q r R p pre S ok hj _ k => by
  have e := okV_obj ok
  rw [hi] at e
  refine hide fun Ψ kΨ => ?_
  obtain ⟨l', hl', e1, kv', ep', e2, e3, e4, e5⟩ := S.lc e
  refine kΨ ?_
  rw [pre_get pre hl] at hl'
  cases hl'
  have : ep' = ep := by omega
  subst this
  have hz := e4.length
  refine wpAny_pyNext_dict_end (kvs := kv') R.han (by rw [hz]; exact p) e2 (by rw [List.getElem?_eq_none_iff]; have := List.getElem?_eq_none_iff.mp hj; rw [List.length_map] at this; omega) fun h' hs => ?_
  exact k h' s.toks fun a o n e => hs a o n e
theorem itr_rev {i : Nat} {l : Lc} {xs : List V} {I : Addr} (hl : φ₀[i]? = some l) (hi : H₀[i]? = some (.list xs)) :
  Itr ω φ₀ I (okV H₀ (.obj i)) xs.reverse (fun j h => h.IsRevIter I l.a ((xs.length : Int) - 1 - j)) where
 self := fun j A E s Q p q => wpAny_pyIter_revIter p q
 ob := fun j h ⟨o, ho, _⟩ => ⟨o, ho⟩
 notTup := fun j h ⟨o, ho, hc, _⟩ its ⟨o', ho', hc', _⟩ => by rw [ho] at ho'; cases ho'; rw [hc] at hc'; exact absurd hc' (by decide)
 at_ := fun j h h' ⟨o, ho, x⟩ k => ⟨o, k o ho, x⟩
 item := fun j z A E s φ H Q r R p pre S ok hj k => by
  have e := okV_obj ok
  rw [hi] at e
  refine hide fun Ψ kΨ => ?_
  obtain ⟨l', hl', e1, cnt, its, e2, e3, e4⟩ := S.lc e
  refine kΨ ?_
  rw [pre_get pre hl] at hl'
  cases hl'
  have hlt := (List.getElem?_eq_some_iff.mp hj).1
  rw [List.length_reverse] at hlt
  rw [List.getElem?_reverse hlt] at hj
  refine hide fun Ψ kΨ => ?_
  obtain ⟨v, v1, v2⟩ := e3.get hj
  refine kΨ ?_
  have p : s.heap.IsRevIter I l.a ((xs.length - 1 - j : Nat) : Int) := by
   have : ((xs.length - 1 - j : Nat) : Int) = (xs.length : Int) - 1 - j := by omega
   rw [this]; exact p
  refine wpAny_pyNext_rev_item p (items := its) ⟨_, e2, rfl, _, rfl⟩ (by simpa using v1) fun h' p' hs => ?_
  refine k v h' s.toks ?_ (fun a o n e => (hs.2 a n).trans e) v2
  have : ((xs.length - 1 - j : Nat) : Int) - 1 = (xs.length : Int) - 1 - (j + 1 : Nat) := by omega
  rw [← this]; exact p'
 fin := fun j A E s φ H Q r R p pre S ok hj hle k => by
  have := List.getElem?_eq_none_iff.mp hj
  rw [List.length_reverse] at this hle
  have p : s.heap.IsRevIter I l.a (-1) := by
   have : (xs.length : Int) - 1 - j = -1 := by omega
   rw [← this]; exact p
  exact wpAny_pyNext_rev_end R.han p fun h' hs => k h' s.toks fun a o n e => hs a o n e
theorem stepFrom_len (a st : Int) : ∀ n, (stepFrom a st n).length = n
 | 0 => rfl
 | n + 1 => by unfold stepFrom; rw [List.length_cons, stepFrom_len (a + st) st n]
theorem stepFrom_get (st : Int) : ∀ (n j : Nat) (a : Int), j < n → (stepFrom a st n)[j]? = some (.int (a + st * j))
 | n + 1, 0, a, _ => by unfold stepFrom; simp
 | n + 1, j + 1, a, h => by
  unfold stepFrom
  rw [List.getElem?_cons_succ, stepFrom_get st n j (a + st) (by omega)]
  congr 2
  push_cast
  rw [Int.mul_add]; omega
theorem itr_range {a st : Int} {n : Nat} {I : Addr} :
  Itr ω φ₀ I (fun _ => true) (stepFrom a st n) (fun j h => IsRangeIter h I (a + st * j) ((n : Int) - j) st) where
 self := fun j A E s Q p q => wpAny_pyIter_rangeiter p q
 ob := fun j h p => ⟨_, p⟩
 notTup := fun j h p its ⟨o', ho', hc', _⟩ => by rw [p] at ho'; cases ho'; dsimp only at hc'; exact absurd hc' (by decide)
 at_ := fun j h h' p k => k _ p
 item := fun j z A E s φ H Q r R p pre S ok hj k => by
  have hlt := (List.getElem?_eq_some_iff.mp hj).1
  rw [stepFrom_len] at hlt
  rw [stepFrom_get st n j a hlt] at hj
  cases hj
  refine wpAny_pyNext_range_item p (by omega) fun h' p' hs => ?_
  refine k _ h' _ ?_ (fun a o n e => (hs.2 a n).trans e) (.int _ _)
  have e1 : a + st * (j + 1 : Nat) = a + st * j + st := by push_cast; rw [Int.mul_add]; omega
  have e2 : (n : Int) - (j + 1 : Nat) = n - j - 1 := by omega
  rw [e1, e2]; exact p'
 fin := fun j A E s φ H Q r R p pre S ok hj hle k => by
  have := List.getElem?_eq_none_iff.mp hj
  rw [stepFrom_len] at this
  exact wpAny_pyNext_range_end R.han p (by omega) fun h' hs => k h' s.toks fun a o n e => hs a o n e
end
end
end Mine
namespace Mine
section
open PySem PySem.W PyProof.Rows PySem.Calls
section
variable {ω : Gd} {φ₀ φ φ' : List Lc} {H₀ H H₁ H₂ H₃ H₄ H' : MH} {h h' : Heap} {env : Env} {ρ ρ' ρ₁ ρ₂ : Loc} {r : Nat} {A : Around} {E : Value → Shared → Prop} {s : Shared} {z z₁ z₂ z₃ : V} {cf : CF}
structure TabR (K : Frag) : Prop where
 rng : nsIn K mainGlobals Nm.k_range.str = some none ∧ bootBuiltins Nm.k_range.str = some (.type "range")
 rev : nsIn K mainGlobals Nm.k_reversed.str = some none ∧ bootBuiltins Nm.k_reversed.str = some (.type "reversed")
theorem name_type (Y : Hy ω) {n : Nm} {v : Value} {pos : Pos} {Q : Value → Shared → Prop} (hk : env.kindOf n.str = some .globalImplicit) (h1 : nsIn ω.K mainGlobals n.str = some none) (h2 : bootBuiltins n.str = some v) (S : St ω φ H s.heap) (F : FrOk ω env φ ρ s.heap) (q : Q v s) : wpAny ω.m A (eval (.Name n.str pos) env) Q E s := by
 refine hide fun Ψ kΨ => ?_
 obtain ⟨mg, G⟩ := Y.glob
 obtain ⟨mb, B, hB⟩ := Y.blt
 refine kΨ ?_
 refine Name_function_global F.kind hk ?_ (nm_plain n).1
 exact loadGlobal_builtin (mg := mg) (mb := mb) (v := v) (by rw [F.glob]; exact G.keeps S.base) (mg_none_of Y.kin G h1) (by rw [F.blt]; exact B.keeps S.base) (by rw [hB _ (nm_plain n).2.2, h2]) q
theorem size_2 (x y : Int) : Builtin.Range.rangeSize x y 2 = (((y - x + 1) / 2).toNat : Int) := by
 unfold Builtin.Range.rangeSize
 rw [if_pos (by decide)]
 split <;> omega
theorem size_m (x y : Int) : Builtin.Range.rangeSize x y (-1) = ((x - y).toNat : Int) := by
 unfold Builtin.Range.rangeSize
 rw [if_neg (by decide), show (-(-1 : Int)) = 1 from rfl, Int.ediv_one]
 split <;> omega
theorem size_1 (b : Int) : Builtin.Range.rangeSize 0 b 1 = (b.toNat : Int) := by
 rw [rangeSize_one]; split <;> omega
theorem fits {i : Int} (h1 : -100000 ≤ i) (h2 : i ≤ 100000) : Builtin.Range.rangeFitsLong i = true := by
 show (decide (-(2 ^ 63) ≤ i) && decide (i < 2 ^ 63)) = true
 rw [decide_eq_true (Int.le_trans (by decide) h1), decide_eq_true (Int.lt_of_le_of_lt h2 (by decide))]; rfl
theorem small_of {a b c n : Int} (ha : a.natAbs ≤ 1000) (hb : b.natAbs ≤ 1000) (hc : Builtin.Range.rangeFitsLong c = true) (e : Builtin.Range.rangeSize a b c = n) (hn : Builtin.Range.rangeFitsLong n = true) (hr : (if c > 0 then Builtin.Range.rangeFitsLong (b + (c - 1)) else Builtin.Range.rangeFitsLong (b + (c + 1))) = true) : Builtin.Range.small a b c = true := by
 unfold Builtin.Range.small
 rw [fits (i := a) (by omega) (by omega), fits (i := b) (by omega) (by omega), hc, e, hn, hr, Bool.or_true]; rfl
theorem fitN {i : Int} (h : i ≤ 100000) : Builtin.Range.rangeFitsLong (i.toNat : Int) = true := fits (Int.le_trans (by decide) (Int.natCast_nonneg _)) (Int.ofNat_le.mpr (Int.toNat_le.mpr h : i.toNat ≤ 100000))
theorem small_2 {x y : Int} (hx : x.natAbs ≤ 1000) (hy : y.natAbs ≤ 1000) : Builtin.Range.small x y 2 = true :=
 small_of hx hy rfl (size_2 x y) (fitN (Int.ediv_le_of_le_mul (by decide) (by omega))) ((if_pos (by decide)).trans (fits (by omega) (by omega)))
theorem small_m {x y : Int} (hx : x.natAbs ≤ 1000) (hy : y.natAbs ≤ 1000) : Builtin.Range.small x y (-1) = true :=
 small_of hx hy rfl (size_m x y) (fitN (by omega)) ((if_neg (by decide)).trans (fits (by omega) (by omega)))
theorem rangeV_cases {vs items : List V} (e : rangeV vs = some items) {P : Prop} (k1 : ∀ v b n, vs = [v] → v = .int b → items = stepFrom 0 1 n → Builtin.Range.small 0 b 1 = true → Builtin.Range.rangeSize 0 b 1 = (n : Nat) → n ≤ 2000 → P)
  (k3 : ∀ u v w a b c n, vs = [u, v, w] → u = .int a → v = .int b → w = .int c → items = stepFrom a c n → Builtin.Range.small a b c = true → Builtin.Range.rangeSize a b c = (n : Nat) → c = 2 ∨ c = -1 → n ≤ 2000 → P) : P := by
 refine invE e (fun e => inv_one e fun v e1 e => invI e fun b e2 e => invC e fun hb e => ?_) fun e => inv_three e fun u v w e1 e => invII e fun a b e2 e3 e => invI e fun c e4 e => invC e fun hb e => invX e (fun hc e => ?_) fun _ e => invC e fun hc e => ?_
 ·exact k1 v b _ e1 e2 (Option.some.inj e).symm (small_one (by omega) (by omega) (by omega) (by omega)) (size_1 b) (by omega)
 ·subst hc
  exact k3 u v w a b 2 _ e1 e2 e3 e4 (Option.some.inj ‹_›).symm (small_2 hb.1 hb.2) (size_2 a b) (.inl rfl) (by omega)
 ·subst hc
  exact k3 u v w a b (-1) _ e1 e2 e3 e4 (Option.some.inj ‹_›).symm (small_m hb.1 hb.2) (size_m a b) (.inr rfl) (by omega)
theorem range_fin {items : List V} {a b c : Int} {t u v : Tok} {tk n : Nat} {Q : Value → Shared → Prop} (S : St ω φ H s.heap) (F : FrOk ω env φ ρ s.heap) (hi : items = stepFrom a c n) (hsm : Builtin.Range.small a b c = true) (hsz : Builtin.Range.rangeSize a b c = n)
  (k : ∀ I h₁ h' tk P, Step φ [] s.heap φ h₁ → Step φ [] h₁ φ h' → St ω φ H h' → FrOk ω env φ ρ h' → h₁.objs.size ≤ I → Aside ω.hb φ env h' I → Itr ω φ I (fun _ => true) items P → P 0 h' → Q (.ref I) { s with heap := h', toks := tk }) :
  wpAny ω.m A (pyIter (.ref s.heap.objs.size)) Q E { s with heap := s.heap.push { cls := .type "range", data := .fields #[.int a t, .int b u, .int c v] }, toks := tk } := by
 generalize ho : ({ cls := .type "range", data := .fields #[.int a t, .int b u, .int c v] } : Obj) = o
 have G := Step.grow (φ := φ) (push_keep s.heap o) (push_le _ _)
 have S1 := S.grow (push_keep s.heap o) (push_le _ _)
 have F1 := F.step S G
 refine wpAny_pyIter_range (by rw [← ho]; exact IsRange.new _ _ _ _ _ _ _) hsm ?_
 have G2 := Step.grow (φ := φ) (push_keep (s.heap.push o) { cls := .type "range_iterator", data := .fields #[rawInt a, rawInt (Builtin.Range.rangeSize a b c), rawInt c] }) (push_le _ _)
 refine k _ _ _ tk (fun j h => IsRangeIter h (s.heap.push o).objs.size (a + c * j) ((n : Int) - j) c) G G2 (S1.grow (push_keep _ _) (push_le _ _)) (F1.step S1 G2) (Nat.le_refl _) (Aside.new S1 F1 (by show Value.type _ ≠ Value.type _; decide) rfl) (by rw [hi]; exact itr_range) ?_
 show IsRangeIter _ _ (a + c * ((0 : Nat) : Int)) ((n : Int) - ((0 : Nat) : Int)) c
 rw [show a + c * ((0 : Nat) : Int) = a by simp, show ((n : Int) - ((0 : Nat) : Int)) = n by simp, ← hsz]
 exact Heap.get?_push_size _ rfl
theorem range_iter {vs : List V} {items : List V} {avs : List Value} {Q : Value → Shared → Prop} (e : rangeV vs = some items) (S : St ω φ H s.heap) (F : FrOk ω env φ ρ s.heap) (a : All2 (VR ω.K φ s.heap) avs vs)
  (k : ∀ I h₁ h' tk P, Step φ [] s.heap φ h₁ → Step φ [] h₁ φ h' → St ω φ H h' → FrOk ω env φ ρ h' → h₁.objs.size ≤ I → Aside ω.hb φ env h' I → Itr ω φ I (fun _ => true) items P → P 0 h' → Q (.ref I) { s with heap := h', toks := tk }) :
  wpAny ω.m A (call (.type "range") avs) (fun x s₁ => wpAny ω.m A (pyIter x) Q E s₁) E s := by
 refine rangeV_cases e (fun v b n e1 e2 hi hs hz _ => ?_) fun u v w x y c n e1 e2 e3 e4 hi hs hz hc _ => ?_
 ·apply a.oOne e1
  intro u x
  apply x.oInt e2
  exact fun t => call_range_1 (range_fin S F hi hs hz k)
 ·apply a.oThree e1
  intro u v w x1 x2 x3
  apply x1.two e2 x2 e3
  intro t1 t2
  apply x3.oInt e4
  intro t3
  rcases hc with rfl | rfl
  ·exact call_range_3 (by decide) (range_fin S F hi hs hz k) (Or.inl (PyProof.noPylong_of_log2 (by decide +kernel)))
  ·exact call_range_3 (by decide) (range_fin S F hi hs hz k) (Or.inl (PyProof.noPylong_of_log2 (by decide +kernel)))
theorem range_eval (Y : Hy ω) (T : TabR ω.K) {es : List Expr} {vs items : List V} {npos pos : Pos} {Q : Value → Shared → Prop} (hk : env.kindOf Nm.k_range.str = some .globalImplicit) (hp : allPlain es = true) (y : LOk ω r env ρ H (spliced (backTo pos (starEach es env))) vs H₁) (e : rangeV vs = some items)
  (R : Room A r) (S : St ω φ H s.heap) (F : FrOk ω env φ ρ s.heap)
  (k : ∀ I h₁ h' tk φ' P, Step φ (own env) s.heap φ' h₁ → Step φ' [] h₁ φ' h' → St ω φ' H₁ h' → FrOk ω env φ' ρ h' → h₁.objs.size ≤ I → Aside ω.hb φ' env h' I → Itr ω φ' I (fun _ => true) items P → P 0 h' → Q (.ref I) { s with heap := h', toks := tk }) :
  wpAny ω.m A (eval (.Call (.Name Nm.k_range.str npos) es [] pos) env) (fun x s₁ => wpAny ω.m A (pyIter x) Q E s₁) E s := by
 rw [eval_call rfl]
 refine wpAny_bind (name_type Y hk T.rng.1 T.rng.2 S F ?_)
 refine callWith_ok (ω := ω) hp (.inr (.inr ⟨_, rfl⟩)) (y A E s φ _ R S F fun vs h1 t1 φ1 s1 S1 F1 v1 => ⟨S1.kin Y, ?_⟩)
 exact range_iter (s := ⟨h1, _, _, _, _⟩) e S1 F1 v1 fun I h2 h3 tk P g1 g2 T2 G2 hI N It p0 => k I h2 h3 tk φ1 P (s1.trans g1.wide) g2 T2 G2 hI N It p0
theorem folded_of {e : Expr} (hn : notSet e = true) (x : Value) : foldedSetIterable e env x = pure x := by
 cases e <;> first | rfl | (cases hn; done)
theorem turn_name {x : Nm} {px : Pos} {body : List Stmt} {b : Loc → MH → Res} {I : Addr} {P : Nat → Heap → Prop} (hk : env.kindOf x.str = some .local)
  (hB : ∀ ρ H f ρ' H', b ρ H = some (f, ρ', H') → SOk ω r env ρ H (execs body env) f ρ' H') : Turn ω r env I P (.Name x.str px) body (fun v ρ H => b (put x v ρ) H) := fun z ρ H f ρ' H' e A E s φ v Q j R p S F xv k => by
 refine (wpAny_pure ?_ : wpAny _ _ (pure ()) _ _ _)
 refine wpAny_assign_Name (store_ok (.inl hk) (fun q => by rw [hk] at q; cases q) S F xv fun h1 t1 s1 S1 F1 _ => ?_)
 exact hB _ _ _ _ _ e A E _ φ _ R S1 F1 fun fl h2 t2 φ2 s2 S2 F2 v2 => k fl h2 t2 φ2 (s1.trans s2) S2 F2 v2
theorem turn_pair {x y : Nm} {kk : Nat} {px py tpos : Pos} {body : List Stmt} {b : Loc → MH → Res} {I l : Addr} (hx : env.kindOf x.str = some .local) (hy : env.kindOf y.str = some .local)
  (hB : ∀ ρ H f ρ' H', b ρ H = some (f, ρ', H') → SOk ω r env ρ H (execs body env) f ρ' H') : Turn ω r env I (fun j h => h.IsListIter I l j) (.Tuple [.Name x.str px, .Name y.str py] kk tpos) body (fun v ρ H => iP v fun c d => b (put y d (put x c ρ)) H) := fun z ρ H f ρ' H' e A E s φ v Q j R p S F xv k => invP e fun c d e1 e => by
 have fin : wpAny ω.m A (assign (.Tuple [.Name x.str px, .Name y.str py] kk tpos) env v) (fun _ s₂ => wpAny ω.m A (execs body env) Q E s₂) E s :=
  assign2_ok hx hy R S F xv (.inl e1) fun h1 t1 s1 S1 F1 => hB _ _ _ _ _ e A E _ φ _ R S1 F1 fun fl h2 t2 φ2 s2 S2 F2 v2 => k fl h2 t2 φ2 (s1.trans s2) S2 F2 v2
 revert fin
 apply xv.oPair e1
 exact fun _ _ _ _ _ _ fin => wpAny_letOwnedTupleGo_listiter p fin
theorem S_for_list {target iter : Expr} {body : List Stmt} {pos : Pos} {i : Nat} {xs : List V} {turn : V → Loc → MH → Res} {f : Fl} (hn : notSet iter = true) (x : EOk ω r env ρ H (eval iter env) (.obj i) H₁) (hi : H₁[i]? = some (.list xs))
  (hT : ∀ I l, Turn ω r env I (fun j h => h.IsListIter I l j) target body turn) (e : forG turn (okV H₁ (.obj i)) xs ρ H₁ = some (f, ρ', H')) : SOk ω r env ρ H (exec (.For target iter body [] pos) env) f ρ' H' := fun A E s φ Q R S F k => by
 refine wpAny_For (x A E s φ _ R S F fun v h1 t1 φ1 s1 S1 F1 v1 => ?_) (folded_of hn)
 apply v1.oObj rfl
 refine fun l hl => S1.lst hl hi fun e1 cnt its e2 e3 e4 _ => ?_
 ·refine wpAny_pyIter_list ⟨_, e2, rfl, _, rfl⟩ ?_
  have G := Step.grow (φ := φ1) (push_keep h1 { cls := .type "list_iterator", data := .fields #[.ref l.a, .int 0 0] }) (push_le _ _)
  exact forG_ok (φ₀ := φ1) (h₀ := h1) (itr_list hl hi) (hT _ l.a) R G.wide (Nat.le_refl _) (Aside.new S1 F1 (by show Value.type _ ≠ Value.type _; decide) rfl) ⟨_, Heap.get?_push_size _ rfl, rfl, rfl⟩ (S1.grow (push_keep _ _) (push_le _ _)) (F1.step S1 G) e
   fun fl h2 t2 φ2 s2 S2 F2 v2 => k fl h2 t2 φ2 (s1.trans s2) S2 F2 v2
theorem S_for_dict (Y : Hy ω) {target iter : Expr} {body : List Stmt} {pos : Pos} {i : Nat} {kvs : List (Int × V)} {turn : V → Loc → MH → Res} {f : Fl} (hn : notSet iter = true) (x : EOk ω r env ρ H (eval iter env) (.obj i) H₁) (hi : H₁[i]? = some (.idict kvs))
  (hT : ∀ I P, Turn ω r env I P target body turn) (e : forG turn (okV H₁ (.obj i)) (kvs.map fun p => .int p.1) ρ H₁ = some (f, ρ', H')) : SOk ω r env ρ H (exec (.For target iter body [] pos) env) f ρ' H' := fun A E s φ Q R S F k => by
 refine wpAny_For (x A E s φ _ R S F fun v h1 t1 φ1 s1 S1 F1 v1 => ?_) (folded_of hn)
 apply v1.oObj rfl
 refine fun l hl => S1.idc hl hi fun e1 kv' ep e2 e3 e4 e5 hz => ?_
 ·refine wpAny_pyIter_dict (sys_ne Y (S1.lo _ (List.mem_of_getElem? hl)).2) e2 ?_
  have G := Step.grow (φ := φ1) (push_keep h1 { cls := .type "dict_keyiterator", data := .fields #[.ref l.a, .int 0 0, .int kv'.length 0, .int ep 0] }) (push_le _ _)
  exact forG_ok (φ₀ := φ1) (h₀ := h1) (itr_dict hl hi e3) (hT _ _) R G.wide (Nat.le_refl _) (Aside.new S1 F1 (by show Value.type _ ≠ Value.type _; decide) rfl) ⟨_, Heap.get?_push_size _ rfl, rfl, by rw [hz]; rfl⟩ (S1.grow (push_keep _ _) (push_le _ _)) (F1.step S1 G) e
   fun fl h2 t2 φ2 s2 S2 F2 v2 => k fl h2 t2 φ2 (s1.trans s2) S2 F2 v2
theorem S_for_range (Y : Hy ω) (T : TabR ω.K) {target : Expr} {es : List Expr} {vs items : List V} {npos ipos : Pos} {body : List Stmt} {pos : Pos} {turn : V → Loc → MH → Res} {f : Fl} (hk : env.kindOf Nm.k_range.str = some .globalImplicit) (hp : allPlain es = true) (y : LOk ω r env ρ H (spliced (backTo ipos (starEach es env))) vs H₁) (er : rangeV vs = some items)
  (hT : ∀ I P, Turn ω r env I P target body turn) (e : forL turn items ρ H₁ = some (f, ρ', H')) : SOk ω r env ρ H (exec (.For target (.Call (.Name Nm.k_range.str npos) es [] ipos) body [] pos) env) f ρ' H' := fun A E s φ Q R S F k => by
 rw [forL_forG] at e
 refine wpAny_For (range_eval Y T hk hp y er R S F fun I h1 h2 tk φ1 P s1 g S2 F2 hI N It p0 => ?_) (folded_of rfl)
 exact forG_ok (s := ⟨h2, _, _, _, _⟩) (φ₀ := φ1) (h₀ := h1) It (hT _ _) R g.wide hI N p0 S2 F2 e
  fun fl h2 t2 φ2 s2 S2 F2 v2 => k fl h2 t2 φ2 (s1.trans s2) S2 F2 v2
theorem S_for_rev (Y : Hy ω) (T : TabR ω.K) {target e0 : Expr} {npos ipos : Pos} {body : List Stmt} {pos : Pos} {i : Nat} {xs : List V} {turn : V → Loc → MH → Res} {f : Fl} (hk : env.kindOf Nm.k_reversed.str = some .globalImplicit) (hp : notStar e0 = true) (y : EOk ω r env ρ H (eval e0 env) (.obj i) H₁) (hi : H₁[i]? = some (.list xs))
  (hT : ∀ I P, Turn ω r env I P target body turn) (e : forG turn (okV H₁ (.obj i)) xs.reverse ρ H₁ = some (f, ρ', H')) : SOk ω r env ρ H (exec (.For target (.Call (.Name Nm.k_reversed.str npos) [e0] [] ipos) body [] pos) env) f ρ' H' := fun A E s φ Q R S F k => by
 refine wpAny_For ?_ (folded_of rfl)
 rw [eval_call rfl]
 refine wpAny_bind (name_type Y hk T.rev.1 T.rev.2 S F ?_)
 refine callWith_ok (ω := ω) (by unfold allPlain allPlain; rw [hp]; rfl) (.inr (.inr ⟨_, rfl⟩)) (L_cons hp y L_nil A E s φ _ R S F fun vs h1 t1 φ1 s1 S1 F1 v1 => ⟨S1.kin Y, ?_⟩)
 apply v1.oOne rfl
 intro _ v2
 apply v2.oObj rfl
 refine fun l hl => S1.lst hl hi fun e1 cnt its e2 e3 e4 hz => ?_
 ·refine call_reversed_list (items := its) ⟨_, e2, rfl, _, rfl⟩ ?_
  have G := Step.grow (φ := φ1) (push_keep h1 (revObj l.a ((its.size : Int) - 1))) (push_le _ _)
  have hit : (h1.push (revObj l.a ((its.size : Int) - 1))).IsRevIter h1.objs.size l.a ((its.size : Int) - 1) := ⟨_, Heap.get?_push_size _ rfl, rfl, rfl⟩
  refine wpAny_pyIter_revIter hit ?_
  exact forG_ok (s := ⟨h1.push (revObj l.a ((its.size : Int) - 1)), _, _, _, _⟩) (φ₀ := φ1) (h₀ := h1) (itr_rev hl hi) (hT _ _) R G.wide (Nat.le_refl _) (Aside.new S1 F1 (by show Value.type _ ≠ Value.type _; decide) rfl) (by
    have : (xs.length : Int) - 1 - (0 : Nat) = (its.size : Int) - 1 := by omega
    show Heap.IsRevIter _ _ _ ((xs.length : Int) - 1 - (0 : Nat))
    rw [this]; exact hit) (S1.grow (push_keep _ _) (push_le _ _)) (F1.step S1 G) e
   fun fl h2 t2 φ2 s2 S2 F2 v2 => k fl h2 t2 φ2 (s1.trans s2) S2 F2 v2
end
end
end Mine
namespace Mine
section
open PySem PySem.W PyProof.Rows PySem.Calls
section
variable {ω : Gd} {φ₀ φ φ' : List Lc} {H₀ H H₁ H₂ H₃ H₄ H' : MH} {h h' : Heap} {env cenv : Env} {ρ ρc ρ' ρ₁ ρ₂ : Loc} {r : Nat} {A : Around} {E : Value → Shared → Prop} {s : Shared} {z z₁ z₂ z₃ : V} {cf : CF}
theorem S_whl {t : Expr} {body : List Stmt} {pos : Pos} {test : Loc → MH → Option (V × MH)} {turn : Loc → MH → Res} {n : Nat} {f : Fl}
  (hT : ∀ ρ H v H' b, test ρ H = some (v, H') → truthyV v = some b → TOk ω r env ρ H (isTrue t env (eval t env)) b H')
  (hB : ∀ ρ H f ρ' H', turn ρ H = some (f, ρ', H') → SOk ω r env ρ H (execs body env) f ρ' H')
  (e : whF test turn n ρ H = some (f, ρ', H')) : SOk ω r env ρ H (exec (.While t body [] pos) env) f ρ' H' := fun A E s φ₀ Q R S F k => by
 refine wpAny_While ?_
 let Inv : Nat → Shared → Prop := fun n s' => ∃ (φ : List Lc) (ρ : Loc) (H : MH) (hp : Heap) (tk : Nat), s' = { s with heap := hp, toks := tk } ∧ St ω φ H hp ∧ FrOk ω env φ ρ hp ∧ Step φ₀ (own env) s.heap φ hp ∧ whF test turn n ρ H = some (f, ρ', H')
 refine codeAny_whileLoop Inv (fun n s' inv => ?_) n ⟨φ₀, ρ, H, s.heap, s.toks, rfl, S, F, .refl, e⟩
 obtain ⟨φ, ρ, H, hp, tk, rfl, S, F, s1, e⟩ := inv
 cases n with
 | zero => cases e
 | succ n =>
  refine inv2 e fun v H1 ht e => invO e (fun hv e => ?_) fun hv e => ?_
  ·refine hT _ _ _ _ _ ht hv A _ _ φ _ R S F fun h1 t1 φ1 s2 S1 F1 => ?_
   rw [if_pos rfl]
   refine inv_lp e (fun ρ1 H2 hb e => ?_) (fun hb ef => ?_) fun q hb ef => ?_
   ·refine hB _ _ _ _ _ hb A _ _ φ1 _ R S1 F1 fun fl h2 t2 φ2 s3 S2 F2 v2 => ?_
    apply v2.oNext rfl
    exact ⟨n, Nat.lt_succ_self _, φ2, ρ1, H2, h2, t2, rfl, S2, F2, (s1.trans s2).trans s3, e⟩
   ·refine hB _ _ _ _ _ hb A _ _ φ1 _ R S1 F1 fun fl h2 t2 φ2 s3 S2 F2 v2 => ?_
    apply v2.oBrk rfl
    exact k _ h2 t2 φ2 ((s1.trans s2).trans s3) S2 F2 (ef ▸ .next)
   ·refine hB _ _ _ _ _ hb A _ _ φ1 _ R S1 F1 fun fl h2 t2 φ2 s3 S2 F2 v2 => ?_
    apply v2.oRet rfl
    exact fun u xu => k _ h2 t2 φ2 ((s1.trans s2).trans s3) S2 F2 (ef ▸ .ret xu)
  ·cases e
   refine hT _ _ _ _ _ ht hv A _ _ φ _ R S F fun h1 t1 φ1 s2 S1 F1 => ?_
   rw [if_neg Bool.false_ne_true]
   exact wpAny_execs_nil (k _ h1 t1 φ1 (s1.trans s2) S1 F1 .next)
theorem closure_of {csc : Scope} (hf : (csc.names.filter fun p => p.2 == .free).length ≤ 1) (hc : ∀ p ∈ csc.names, p.2 = .free → ∃ c, env.cells.lookup p.1 = some c) :
  ∃ cl, closureFor csc env = pure cl ∧ (∀ p ∈ cl, (p.1, NameKind.free) ∈ csc.names ∧ env.cells.lookup p.1 = some p.2 ∧ cl.lookup p.1 = some p.2) ∧ (cl.map (·.2)).Nodup ∧ (∀ p ∈ csc.names, p.2 = .free → ∃ c, cl.lookup p.1 = some c) := by
 have gen : ∀ (L : List (Str × NameKind)) (cs : List (Str × Addr)), (∀ p ∈ L, p.2 = .free → ∃ c, env.cells.lookup p.1 = some c) →
   ∃ nw, (forIn L cs fun p r => match p with
    | (name, kind) => if (kind == NameKind.free) = true then do
      let c ← cellOf env name
      pure (ForInStep.yield ((name, c) :: r))
     else pure (ForInStep.yield r) : Sem (List (Str × Addr))) = pure (nw ++ cs) ∧ (∀ p ∈ nw, (p.1, NameKind.free) ∈ L ∧ env.cells.lookup p.1 = some p.2) ∧ nw.length = (L.filter fun p => p.2 == .free).length ∧ (∀ p ∈ L, p.2 = .free → p.1 ∈ nw.map (·.1)) := by
  intro L
  induction L with
  | nil => intro cs _; exact ⟨[], rfl, by simp, rfl, by simp⟩
  | cons p L ih =>
   intro cs hc
   obtain ⟨n, kd⟩ := p
   rw [List.forIn_cons]
   by_cases hk : (kd == NameKind.free) = true
   ·refine hide fun Ψ kΨ => ?_
    obtain ⟨c, hc1⟩ := hc _ (.head _) (by simpa using hk)
    obtain ⟨nw, e1, e2, e3, e4⟩ := ih ((n, c) :: cs) fun q m => hc q (.tail _ m)
    refine kΨ ?_
    have hco : cellOf env n = pure c := by unfold cellOf; rw [hc1]
    refine ⟨nw ++ [(n, c)], ?_, fun q m => ?_, ?_, fun q m hq => ?_⟩
    ·simp only [hk, if_true, hco]
     rw [List.append_assoc]; exact e1
    ·rcases List.mem_append.mp m with m | m
     ·exact ⟨.tail _ (e2 q m).1, (e2 q m).2⟩
     ·rw [List.mem_singleton.mp m]
      have : kd = .free := by simpa using hk
      exact ⟨this ▸ .head _, hc1⟩
    ·rw [List.length_append, e3, List.filter_cons, if_pos hk]; rfl
    ·rw [List.map_append, List.mem_append]
     rcases List.mem_cons.mp m with rfl | m
     ·exact .inr (.head _)
     ·exact .inl (e4 q m hq)
   ·refine hide fun Ψ kΨ => ?_
    obtain ⟨nw, e1, e2, e3, e4⟩ := ih cs fun q m => hc q (.tail _ m)
    refine kΨ ?_
    refine ⟨nw, ?_, fun q m => ⟨.tail _ (e2 q m).1, (e2 q m).2⟩, ?_, fun q m hq => ?_⟩
    ·simp only [hk]
     exact e1
    ·rw [e3, List.filter_cons, if_neg hk]
    ·rcases List.mem_cons.mp m with rfl | m
     ·exact absurd (by simp [show kd = .free from hq]) hk
     ·exact e4 q m hq
 refine hide fun Ψ kΨ => ?_
 obtain ⟨nw, e1, e2, e3, e4⟩ := gen csc.names [] hc
 refine kΨ ?_
 rw [List.append_nil] at e1
 have one : ∀ p ∈ nw, nw = [p] := fun p m => by
  have hl : nw.length ≤ 1 := by rw [e3]; exact hf
  match nw, m, hl with
  | [q], m, _ => rw [List.mem_singleton.mp m]
 refine ⟨nw, ?_, fun p m => ⟨(e2 p m).1, (e2 p m).2, ?_⟩, ?_, fun p m hp => ?_⟩
 ·unfold closureFor
  have := congrArg (fun m : Sem (List (Str × Addr)) => m >>= fun cs => pure cs) e1
  exact this
 ·have := one p m
  obtain ⟨a, b⟩ := p
  rw [this]; simp [List.lookup]
 ·cases nw with
  | nil => simp
  | cons p _ => rw [one p (.head _)]; simp
 ·refine hide fun Ψ kΨ => ?_
  obtain ⟨q, mq, hq⟩ := List.mem_map.mp (e4 p m hp)
  refine kΨ ?_
  refine ⟨q.2, ?_⟩
  rw [← hq]
  have := one q mq
  obtain ⟨a, b⟩ := q
  rw [this]; simp [List.lookup]
theorem name_of_cell {l : List (Str × Addr)} (nd : (l.map (·.2)).Nodup) {x y : Str} {c : Addr} (m1 : (x, c) ∈ l) (m2 : (y, c) ∈ l) : x = y := by
 refine hide fun Ψ kΨ => ?_
 obtain ⟨i, hi⟩ := List.getElem?_of_mem m1
 obtain ⟨j, hj⟩ := List.getElem?_of_mem m2
 refine kΨ ?_
 have hi' := (List.getElem?_eq_some_iff.mp hi)
 have hj' := (List.getElem?_eq_some_iff.mp hj)
 have ij : i = j := (List.getElem_inj (xs := l.map (·.2)) (h₀ := by simpa using hi'.1) (h₁ := by simpa using hj'.1) nd).mp (by
  rw [List.getElem_map, List.getElem_map, hi'.2, hj'.2])
 subst ij
 rw [hi] at hj
 exact congrArg Prod.fst (Option.some.inj hj)
theorem mem_lookup {l : List (Str × Addr)} {x : Str} {c : Addr} (e : l.lookup x = some c) : (x, c) ∈ l := by
 refine hide fun Ψ kΨ => ?_
 obtain ⟨l1, l2, h1, h2⟩ := List.lookup_eq_some_iff.mp e
 refine kΨ ?_
 rw [h1]; simp
theorem FrOk.outer (F0 : FrOk ω env φ ρ h) (S : St ω φ H h) (Fc0 : FrOk ω cenv φ ρ₁ h) (Fc : FrOk ω cenv φ' ρc h') (s : Step φ (own cenv) h φ' h') (hC : cenv.locals ∉ own env)
  (hcl : ∀ p ∈ cenv.cells, env.cells.lookup p.1 = some p.2 ∧ (cenv.kindOf p.1 = some .cell ∨ cenv.kindOf p.1 = some .free) ∧ cenv.cells.lookup p.1 = some p.2 ∧ (∀ n : Nm, n.str = p.1 → get n ρc = get n ρ)) : FrOk ω env φ' ρ h' := by
 have kt : ∀ a its, IsTup h a its → IsTup h' a its := fun a its T => Step.tup S s Fc0.notTup T
 have t : ∀ v x, VR ω.K φ h v x → VR ω.K φ' h' v x := fun v x z => z.mono s.pre kt
 have ko : ∀ a ∈ own env, a ∉ cenv.cells.map (·.2) → ∀ o, h.get? a = some o → h'.get? a = some o := fun a m n o e => s.keep a o e (F0.off a m).1 fun q => by
  rcases List.mem_cons.mp q with q | q
  ·exact hC (q ▸ m)
  ·exact n q
 refine hide fun Ψ kΨ => ?_
 obtain ⟨m, ⟨o', es, ep, ho', hd', n⟩, l⟩ := F0.ns
 refine kΨ ?_
 have hL : env.locals ∉ cenv.cells.map (·.2) := fun q => by
  refine hide fun Ψ kΨ => ?_
  obtain ⟨p, hp, e⟩ := List.mem_map.mp q
  obtain ⟨v, o, ho, hd⟩ := Fc0.celm p hp
  refine kΨ ?_
  rw [e, ho'] at ho; cases ho; rw [hd'] at hd; cases hd
 have cl : ∀ p ∈ env.cells, ∃ v, h'.IsCell p.2 v := fun p hp => by
  by_cases q : p.2 ∈ cenv.cells.map (·.2)
  ·refine hide fun Ψ kΨ => ?_
   obtain ⟨p', hp', e⟩ := List.mem_map.mp q
   refine kΨ ?_
   rw [← e]; exact Fc.celm p' hp'
  ·refine hide fun Ψ kΨ => ?_
   obtain ⟨v, o, ho, hd⟩ := F0.celm p hp
   refine kΨ ?_
   exact ⟨v, o, ko _ (List.mem_cons_of_mem _ (List.mem_map_of_mem (f := fun p : Str × Addr => p.2) hp)) q o ho, hd⟩
 refine ⟨F0.kind, F0.glob, F0.blt, ⟨m, ⟨o', es, ep, ko _ (.head _) hL _ ho', hd', n⟩, fun x V e ek => ?_⟩, fun x c e => cl _ (mem_lookup e), fun x V e ek => ?_, cl, F0.nd, fun a m => ⟨fun q => ?_, fun q => ?_, (F0.off a m).2.2⟩⟩
 ·refine hide fun Ψ kΨ => ?_
  obtain ⟨v, e1, e2⟩ := l x V e ek
  refine kΨ ?_
  exact ⟨v, e1, t _ _ e2⟩
 ·refine hide fun Ψ kΨ => ?_
  obtain ⟨c, v, e1, e2, e3⟩ := F0.celv x V e ek
  refine kΨ ?_
  by_cases q : c ∈ cenv.cells.map (·.2)
  ·refine hide fun Ψ kΨ => ?_
   obtain ⟨p, hp, rfl⟩ := List.mem_map.mp q
   obtain ⟨a1, a2, a3, a4⟩ := hcl p hp
   have hx : p.1 = x.str := name_of_cell F0.nd (mem_lookup a1) (mem_lookup e1)
   obtain ⟨c', v', b1, b2, b3⟩ := Fc.celv x V (by rw [a4 x hx.symm]; exact e) (hx ▸ a2)
   refine kΨ ?_
   rw [hx] at a3
   rw [a3] at b1
   cases b1
   exact ⟨_, v', e1, b2, b3⟩
  ·refine hide fun Ψ kΨ => ?_
   obtain ⟨o, ho, hd⟩ := e2
   refine kΨ ?_
   exact ⟨c, v, e1, ⟨o, ko _ (List.mem_cons_of_mem _ (List.mem_map_of_mem (f := fun p : Str × Addr => p.2) (mem_lookup e1))) q o ho, hd⟩, t _ _ e3⟩
 ·refine hide fun Ψ kΨ => ?_
  obtain ⟨l, ml, e⟩ := List.mem_map.mp q
  refine kΨ ?_
  rcases s.fresh l ml with z | z
  ·exact (F0.off a m).1 (e ▸ List.mem_map_of_mem (f := fun l : Lc => l.d) z)
  ·exact absurd (F0.own_lt _ m) (Nat.not_lt.mpr (e ▸ z.1))
 ·refine hide fun Ψ kΨ => ?_
  obtain ⟨l, ml, e⟩ := List.mem_map.mp q
  refine kΨ ?_
  rcases s.fresh l ml with z | z
  ·exact (F0.off a m).2.1 (e ▸ List.mem_map_of_mem (f := fun l : Lc => l.a) z)
  ·exact absurd (F0.own_lt _ m) (Nat.not_lt.mpr (e ▸ z.2))
end
end
end Mine
namespace Mine
section
open PySem PySem.W PyProof.Rows PySem.Calls
section
variable {ω : Gd} {φ₀ φ φ' : List Lc} {H₀ H H₁ H₂ H₃ H₄ H' : MH} {h₀ h h' : Heap} {env cenv : Env} {ρ ρc ρ' ρ₁ ρ₂ : Loc} {r : Nat} {A : Around} {E : Value → Shared → Prop} {s : Shared} {z z₁ z₂ z₃ : V} {cf : CF}
theorem relabel_lookup {csc : Scope} {x : Str} : (relabel csc env).names.lookup x = (csc.names.lookup x).map fun k => if (k == .free && env.scope.kind == .function && env.kindOf x == some .cell) then .cell else k := by
 unfold relabel
 dsimp only
 generalize csc.names = L
 induction L with
 | nil => rfl
 | cons p L ih =>
  obtain ⟨n, k⟩ := p
  show List.lookup x ((if (k == NameKind.free && env.scope.kind == .function && env.kindOf n == some .cell) = true then (n, NameKind.cell) else (n, k)) :: _) = _
  cases hx : x == n with
  | true =>
   have : x = n := by simpa using hx
   subst this
   by_cases c : (k == NameKind.free && env.scope.kind == .function && env.kindOf x == some .cell) = true
   ·rw [if_pos c, List.lookup_cons, hx, List.lookup_cons, hx]
    show some NameKind.cell = some (if _ then _ else _)
    rw [if_pos c]
   ·rw [if_neg c, List.lookup_cons, hx, List.lookup_cons, hx]
    show some k = some (if _ then _ else _)
    rw [if_neg c]
  | false =>
   by_cases c : (k == NameKind.free && env.scope.kind == .function && env.kindOf n == some .cell) = true
   ·rw [if_pos c, List.lookup_cons, hx, List.lookup_cons, hx]; exact ih
   ·rw [if_neg c, List.lookup_cons, hx, List.lookup_cons, hx]; exact ih
theorem Step.transX {X X' : List Addr} {h'' : Heap} {φ'' : List Lc} (x : Step φ X h φ' h') (y : Step φ' X' h' φ'' h'') (hX : ∀ a ∈ X', a ∈ X ∨ h.objs.size ≤ a) : Step φ X h φ'' h'' := by
 refine ⟨x.pre.trans y.pre, fun a o e n m => y.keep a o (x.keep a o e n m) ?_ fun q => ?_, Nat.le_trans x.size y.size, fun l m => ?_⟩
 ·intro q
  refine hide fun Ψ kΨ => ?_
  obtain ⟨l, ml, rfl⟩ := List.mem_map.mp q
  refine kΨ ?_
  rcases x.fresh l ml with z | z
  ·exact n (List.mem_map_of_mem z)
  ·exact absurd (Nat.lt_of_lt_of_le (Heap.lt_size e) z.1) (Nat.lt_irrefl _)
 ·rcases hX a q with z | z
  ·exact m z
  ·exact absurd (Heap.lt_size e) (Nat.not_lt.mpr z)
 ·rcases y.fresh l m with z | z
  ·exact x.fresh l z
  ·exact .inr ⟨Nat.le_trans x.size z.1, Nat.le_trans x.size z.2⟩
theorem Aside.to {I : Addr} (N : Aside ω.hb φ cenv h I) (ho : I ∉ Mine.own env) : Aside ω.hb φ env h I := ⟨N.lt, N.lo, N.d, N.a, ho, N.tup⟩
theorem Aside.moved2 {I J : Addr} {o : Obj} (N : Aside ω.hb φ env h I) (hIJ : I ≠ J) (k : ∀ a o, a ≠ J → h.get? a = some o → h'.get? a = some o) (hs : h.objs.size ≤ h'.objs.size) (ho : h.get? I = some o) : Aside ω.hb φ env h' I ∧ h'.get? I = some o := by
 have e := k I o hIJ ho
 exact ⟨⟨Nat.lt_of_lt_of_le N.lt hs, N.lo, N.d, N.a, N.own, fun its ⟨o', ho', x⟩ => by rw [e] at ho'; cases ho'; exact N.tup its ⟨o, ho, x⟩⟩, e⟩
theorem Aside.self {I : Addr} (N : Aside ω.hb φ env h I) (hs : h.objs.size ≤ h'.objs.size) (ht : ∀ its, ¬ IsTup h' I its) : Aside ω.hb φ env h' I := ⟨Nat.lt_of_lt_of_le N.lt hs, N.lo, N.d, N.a, N.own, ht⟩
theorem nm_dot (n : Nm) : n.str ≠ (".0" : Str) := of_decide_eq_true (Nm.all (p := fun n => decide (n.str ≠ (".0" : Str))) (by decide +kernel) n)
structure CSc (env : Env) (csc : Scope) (cl : List (Str × Addr)) (v : Nm) : Prop where
 kind : csc.kind = .function
 hx : csc.names.lookup v.str = some .local
 cell : ∀ p ∈ csc.names, p.2 ≠ .cell
 loc : ∀ p ∈ csc.names, p.2 = .local → csc.names.lookup p.1 = some .local ∧ (p.1 = v.str ∨ p.1 = (".0" : Str))
 free : ∀ p ∈ csc.names, p.2 = .free → csc.names.lookup p.1 = some .free ∧ (env.kindOf p.1 = some .cell ∨ env.kindOf p.1 = some .free)
 cl1 : ∀ p ∈ cl, (p.1, NameKind.free) ∈ csc.names ∧ env.cells.lookup p.1 = some p.2 ∧ cl.lookup p.1 = some p.2
 nd : (cl.map (·.2)).Nodup
 cl2 : ∀ p ∈ csc.names, p.2 = .free → ∃ c, cl.lookup p.1 = some c
 clos : closureFor csc env = pure cl
theorem lookup_mem {L : List (Str × NameKind)} {x : Str} {k : NameKind} (e : L.lookup x = some k) : (x, k) ∈ L := by
 refine hide fun Ψ kΨ => ?_
 obtain ⟨l1, l2, h1, h2⟩ := List.lookup_eq_some_iff.mp e
 refine kΨ ?_
 rw [h1]; simp
section
variable {csc : Scope} {cl : List (Str × Addr)} {v : Nm} {C : Addr}
theorem CSc.kloc (X : CSc env csc cl v) {x : Nm} (e : (compEnvC csc cl C env).kindOf x.str = some .local) : x = v := by
 have e : (relabel csc env).names.lookup x.str = some .local := e
 rw [relabel_lookup] at e
 obtain ⟨k, hk, e⟩ := Option.map_eq_some_iff.mp e
 split at e
 ·cases e
 ·subst e
  rcases (X.loc _ (lookup_mem hk) rfl).2 with q | q
  ·exact Nm.inj q
  ·exact absurd q (nm_dot _)
theorem CSc.kfree (X : CSc env csc cl v) {x : Nm} (e : (compEnvC csc cl C env).kindOf x.str = some .cell ∨ (compEnvC csc cl C env).kindOf x.str = some .free) : (x.str, NameKind.free) ∈ csc.names ∧ x ≠ v := by
 have e : (relabel csc env).names.lookup x.str = some .cell ∨ (relabel csc env).names.lookup x.str = some .free := e
 rw [relabel_lookup] at e
 have : csc.names.lookup x.str = some .free := by
  cases hk : csc.names.lookup x.str with
  | none => rw [hk] at e; rcases e with e | e <;> cases e
  | some k =>
   rw [hk] at e
   have hn := X.cell _ (lookup_mem hk)
   simp only [Option.map_some, Option.some.injEq] at e
   rcases e with e | e
   ·split at e
    ·rename_i q
     simp only [Bool.and_eq_true, beq_iff_eq] at q
     rw [q.1.1]
    ·exact absurd e hn
   ·split at e
    ·cases e
    ·rw [e]
 refine ⟨lookup_mem this, fun q => ?_⟩
 subst q
 rw [X.hx] at this
 cases this
theorem CSc.kvar (X : CSc env csc cl v) : (compEnvC csc cl C env).kindOf v.str = some .local := by
 show (relabel csc env).names.lookup v.str = some .local
 rw [relabel_lookup, X.hx]; rfl
theorem CSc.kcell (X : CSc env csc cl v) {p : Str × Addr} (m : p ∈ cl) : (compEnvC csc cl C env).kindOf p.1 = some .cell ∨ (compEnvC csc cl C env).kindOf p.1 = some .free := by
 show (relabel csc env).names.lookup p.1 = some .cell ∨ (relabel csc env).names.lookup p.1 = some .free
 rw [relabel_lookup, (X.free _ (X.cl1 p m).1 rfl).1]
 simp only [Option.map_some]
 split
 ·exact .inl rfl
 ·exact .inr rfl
theorem CSc.nv (X : CSc env csc cl v) {p : Str × Addr} (m : p ∈ cl) {n : Nm} (e : n.str = p.1) : n ≠ v := by
 rintro rfl
 have := (X.free _ (X.cl1 p m).1 rfl).1
 rw [← e, X.hx] at this
 cases this
theorem CSc.mem (X : CSc env csc cl v) {p : Str × Addr} (m : p ∈ cl) : p ∈ env.cells := mem_lookup (X.cl1 p m).2.1
theorem get_cons {x a : Nm} {b : V} {r : Loc} : get x ((a, b) :: r) = if a = x then some b else get x r := rfl
noncomputable def without (v : Nm) (ρ : Loc) : Loc := ρ.filter fun p => p.1 ≠ v
theorem get_without (v x : Nm) : ∀ ρ : Loc, get x (without v ρ) = if x = v then none else get x ρ
 | [] => by simp [without, get]
 | (a, b) :: r => by
  have ih := get_without v x r
  unfold without at ih ⊢
  rw [List.filter_cons]
  by_cases q : a = v
  ·simp only [q, ne_eq, not_true_eq_false, decide_false, Bool.false_eq_true, if_false]
   rw [ih, get_cons]
   by_cases c : x = v
   ·rw [if_pos c, if_pos c]
   ·rw [if_neg c, if_neg c, if_neg (fun e => c e.symm)]
  ·simp only [ne_eq, q, not_false_eq_true, decide_true, if_true]
   rw [get_cons, get_cons, ih]
   by_cases c : a = x
   ·rw [if_pos c, if_pos c, if_neg (fun e => q (c.trans e))]
   ·rw [if_neg c, if_neg c]
theorem CSc.frame (X : CSc env csc cl v) (F : FrOk ω env φ ρ h) (S : St ω φ H h) {h1 : Heap} (hC : h.objs.size ≤ C) (hn : h1.Ns C fun _ => none) (k : ∀ a o, h.get? a = some o → h1.get? a = some o) : FrOk ω (compEnvC csc cl C env) φ (without v ρ) h1 := by
 have kt : ∀ a its, IsTup h a its → IsTup h1 a its := fun a its ⟨o, ho, r⟩ => ⟨o, k a o ho, r⟩
 have kc : ∀ a v, h.IsCell a v → h1.IsCell a v := fun a v ⟨o, ho, hd⟩ => ⟨o, k _ o ho, hd⟩
 refine ⟨X.kind, F.glob, F.blt, ⟨_, hn, fun x V e ek => ?_⟩, fun x c e => ?_, fun x V e ek => ?_, fun p hp => ?_, X.nd, fun a m => ?_⟩
 ·rw [X.kloc ek, get_without, if_pos rfl] at e; cases e
 ·obtain ⟨u, hu⟩ := F.celm _ (X.mem (mem_lookup e))
  exact ⟨u, kc _ _ hu⟩
 ·refine hide fun Ψ kΨ => ?_
  obtain ⟨m, hne⟩ := X.kfree ek
  rw [get_without, if_neg hne] at e
  obtain ⟨c, hc⟩ := X.cl2 _ m rfl
  obtain ⟨c', u, e1, e2, e3⟩ := F.celv x V e (X.free _ m rfl).2
  refine kΨ ?_
  have := (X.cl1 _ (mem_lookup hc)).2.1
  dsimp only at this
  rw [e1] at this
  cases this
  exact ⟨_, u, hc, kc _ _ e2, e3.mono (List.prefix_refl _) kt⟩
 ·obtain ⟨u, hu⟩ := F.celm p (X.mem hp)
  exact ⟨u, kc _ _ hu⟩
 ·rcases List.mem_cons.mp m with q | q
  ·have q : a = C := q
   subst q
   refine ⟨fun q => ?_, fun q => ?_, Nat.le_trans S.size hC⟩
   ·refine hide fun Ψ kΨ => ?_
    obtain ⟨l, ml, e⟩ := List.mem_map.mp q
    refine kΨ ?_
    exact absurd (S.lt ml).1 (Nat.not_lt.mpr (e ▸ hC))
   ·refine hide fun Ψ kΨ => ?_
    obtain ⟨l, ml, e⟩ := List.mem_map.mp q
    refine kΨ ?_
    exact absurd (S.lt ml).2 (Nat.not_lt.mpr (e ▸ hC))
  ·refine hide fun Ψ kΨ => ?_
   obtain ⟨p, hp, rfl⟩ := List.mem_map.mp q
   refine kΨ ?_
   exact F.off _ (List.mem_cons_of_mem _ (List.mem_map_of_mem (f := fun p : Str × Addr => p.2) (X.mem hp)))
theorem CSc.out (X : CSc env csc cl v) (hg : ∀ x, x ≠ v → get x ρc = get x ρ) : ∀ p ∈ (compEnvC csc cl C env).cells, env.cells.lookup p.1 = some p.2 ∧ ((compEnvC csc cl C env).kindOf p.1 = some .cell ∨ (compEnvC csc cl C env).kindOf p.1 = some .free) ∧ (compEnvC csc cl C env).cells.lookup p.1 = some p.2 ∧ (∀ n : Nm, n.str = p.1 → get n ρc = get n ρ) := fun p m =>
 ⟨(X.cl1 p m).2.1, X.kcell m, (X.cl1 p m).2.2, fun _ e => hg _ (X.nv m e)⟩
end
end
end
end Mine
namespace Mine
section
open PySem PySem.W PyProof.Rows PySem.Calls
section
variable {ω : Gd} {φ₀ φ φ' : List Lc} {H₀ H H₁ H₂ H₃ H₄ H' : MH} {h₀ h h' : Heap} {env cenv : Env} {ρ ρc ρ' ρ₁ ρ₂ : Loc} {r : Nat} {A : Around} {E : Value → Shared → Prop} {s : Shared} {z z₁ z₂ z₃ : V} {cf : CF}
variable {csc : Scope} {cl : List (Str × Addr)} {v : Nm} {C : Addr}
theorem own_comp (X : CSc env csc cl v) {hh : Heap} (hC : hh.objs.size ≤ C) : ∀ a ∈ own (compEnvC csc cl C env), a ∈ own env ∨ hh.objs.size ≤ a := fun a m => by
 rcases List.mem_cons.mp m with q | q
 ·exact .inr (by have q : a = C := q; rw [q]; exact hC)
 ·refine hide fun Ψ kΨ => ?_
  obtain ⟨p, hp, rfl⟩ := List.mem_map.mp q
  refine kΨ ?_
  exact .inl (List.mem_cons_of_mem _ (List.mem_map_of_mem (f := fun p : Str × Addr => p.2) (X.mem hp)))
structure CD where
 j : Nat
 φ : List Lc
 H : MH
 ρc : Loc
 its : Array Value
 cnt : Nat
 done : List V
 rest : List V
structure CI (ω : Gd) (env cenv : Env) (φ₀ : List Lc) (h₀ : Heap) (ρ : Loc) (I D : Addr) (P : Nat → Heap → Prop) (v : Nm) (turn : V → MH → Option (V × MH)) (ok : MH → Bool) (items l : List V) (H' : MH) (hp : Heap) (d : CD) : Prop where
 p : P d.j hp
 S : St ω d.φ d.H hp
 F : FrOk ω env d.φ ρ hp
 Fc : FrOk ω cenv d.φ d.ρc hp
 hg : ∀ x, x ≠ v → get x d.ρc = get x ρ
 NI : Aside ω.hb d.φ cenv hp I
 ND : Aside ω.hb d.φ cenv hp D
 s : Step φ₀ (own env) h₀ d.φ hp
 eD : hp.get? D = some (listOf d.its d.cnt)
 a : All2 (VR ω.K d.φ hp) d.its.toList d.done
 len : d.done.length = d.j
 e : compG turn ok (items.drop d.j) d.H = some (d.rest, H')
 l : l = d.done ++ d.rest
theorem comp_core {elt iter : Expr} {px : Pos} {pos : Pos} {I : Addr} {ok : MH → Bool} {items l : List V} {P : Nat → Heap → Prop} {turn : V → MH → Option (V × MH)} {RR : Value → Addr → Result → Shared → Prop}
  (X : CSc env csc cl v)
  (hT : ∀ a H z H', turn a H = some (z, H') → ∀ C, EOk ω r (compEnvC csc cl C env) (put v a ρ) H (eval elt (compEnvC csc cl C env)) z H')
  (It : Itr ω φ₀ I ok items P) (hlen : items.length ≤ 1000000) (R : Room A r) (s₀ : Step φ₀ (own env) h₀ φ s.heap) (hI : h₀.objs.size ≤ I) (N : Aside ω.hb φ env s.heap I) (p0 : P 0 s.heap) (S : St ω φ H s.heap) (F : FrOk ω env φ ρ s.heap)
  (e0 : compG turn ok items H = some (l, H'))
  (k : ∀ D C hp tk φ its cnt m, Step φ₀ (own env) h₀ φ hp → St ω φ H' hp → FrOk ω env φ ρ hp → Aside ω.hb φ env hp D → Aside ω.hb φ env hp C → C ≠ D → hp.Ns C m → h₀.objs.size ≤ D → h₀.objs.size ≤ C → hp.get? D = some (listOf its cnt) → All2 (VR ω.K φ hp) its.toList l → RR (.ref D) C (.ok .next) { s with heap := hp, toks := tk }) :
  wpAny ω.m A (newList []) (fun acc s₃ => wpAny ω.m A (newFunctionEnv csc env.globals cl [] env.qual none .none (some env)) (fun cenv s₄ =>
   codeAny ω.m A (.compStart (.ListComp elt [⟨.Name v.str px, iter, [], 0⟩] csc pos) 0 (.ref I) acc { cenv with scope := relabel csc env }) (RR acc cenv.locals) s₄) E s₃) E s := by
 refine wpAny_newList ?_ (by rw [sizeLine_eq]; simp)
 refine wpAny_sz (wpAny_newFunctionEnv X.cell (by intro y hy; simp at hy) (fun h₁ hns₁ hsb₁ hs₁ => ?_) X.kind)
 dsimp only at hns₁ hsb₁ hs₁ ⊢
 have kD : ∀ a o, s.heap.get? a = some o → (s.heap.push { cls := .type "list", data := .seq ([] : List Value).toArray }).get? a = some o := push_keep _ _
 have hsD := push_le s.heap { cls := .type "list", data := .seq ([] : List Value).toArray }
 have newD : (s.heap.push { cls := .type "list", data := .seq ([] : List Value).toArray }).get? s.heap.objs.size = some (listOf #[] 0) := Heap.get?_push_size _ rfl
 generalize hH2 : s.heap.push { cls := .type "list", data := .seq ([] : List Value).toArray } = H2 at *
 have szD : H2.objs.size = s.heap.objs.size + 1 := by rw [← hH2, Heap.size_push]
 have k1 : ∀ a o, H2.get? a = some o → h₁.get? a = some o := fun a o ea => (hsb₁.2 a (Nat.ne_of_lt (Heap.lt_size ea))).trans (push_keep _ _ _ _ ea)
 have kk : ∀ a o, s.heap.get? a = some o → h₁.get? a = some o := fun a o ea => k1 a o (kD a o ea)
 have hs : s.heap.objs.size ≤ h₁.objs.size := Nat.le_trans hsD hs₁
 have G := Step.grow (φ := φ) kk hs
 have S1 := S.grow kk hs
 have F1 := F.step S G
 have hC : s.heap.objs.size ≤ H2.objs.size := hsD
 have Fc : FrOk ω (compEnvC csc cl H2.objs.size env) φ (without v ρ) h₁ := X.frame F S hC (by simpa using hns₁) kk
 have fresh : ∀ a, s.heap.objs.size ≤ a → a ∉ φ.map (·.d) ∧ a ∉ φ.map (·.a) ∧ a ∉ own env := fun a ha => by
  refine ⟨fun q => ?_, fun q => ?_, fun q => absurd (F.own_lt _ q) (Nat.not_lt.mpr ha)⟩
  ·refine hide fun Ψ kΨ => ?_
   obtain ⟨l, ml, e⟩ := List.mem_map.mp q
   refine kΨ ?_
   exact absurd (S.lt ml).1 (Nat.not_lt.mpr (e ▸ ha))
  ·refine hide fun Ψ kΨ => ?_
   obtain ⟨l, ml, e⟩ := List.mem_map.mp q
   refine kΨ ?_
   exact absurd (S.lt ml).2 (Nat.not_lt.mpr (e ▸ ha))
 have hCenv : H2.objs.size ∉ own env := (fresh _ hC).2.2
 have ownC : ∀ a, a ∉ own env → a ≠ H2.objs.size → a ∉ own (compEnvC csc cl H2.objs.size env) := fun a n1 n2 q => by
  rcases List.mem_cons.mp q with q | q
  ·exact n2 q
  ·refine hide fun Ψ kΨ => ?_
   obtain ⟨p, hp, rfl⟩ := List.mem_map.mp q
   refine kΨ ?_
   exact n1 (List.mem_cons_of_mem _ (List.mem_map_of_mem (f := fun p : Str × Addr => p.2) (X.mem hp)))
 have hDC : s.heap.objs.size ≠ H2.objs.size := by omega
 have hIC : I ≠ H2.objs.size := Nat.ne_of_lt (Nat.lt_of_lt_of_le N.lt hC)
 have hID : I ≠ s.heap.objs.size := Nat.ne_of_lt N.lt
 have eD : h₁.get? s.heap.objs.size = some (listOf #[] 0) := k1 _ _ newD
 have nD : ∀ (h : Heap) its cnt, h.get? s.heap.objs.size = some (listOf its cnt) → ∀ x, ¬ IsTup h s.heap.objs.size x := fun h its cnt eD x ⟨o', ho', hc', _⟩ => by
  rw [eD] at ho'; cases ho'; exact absurd (show Value.type "list" = Value.type "tuple" from hc') (by decide)
 have ND : Aside ω.hb φ (compEnvC csc cl H2.objs.size env) h₁ s.heap.objs.size :=
  ⟨Heap.lt_size eD, S.size, (fresh _ (Nat.le_refl _)).1, (fresh _ (Nat.le_refl _)).2.1, ownC _ (fresh _ (Nat.le_refl _)).2.2 hDC, nD _ _ _ eD⟩
 obtain ⟨oI, hoI⟩ := It.ob _ _ p0
 have pI1 : P 0 h₁ := It.at_ _ _ _ p0 fun o ho => kk _ _ ho
 have NI : Aside ω.hb φ (compEnvC csc cl H2.objs.size env) h₁ I :=
  ⟨Nat.lt_of_lt_of_le N.lt hs, N.lo, N.d, N.a, ownC _ N.own hIC, It.notTup _ _ pI1⟩
 have hle0 : h₀.objs.size ≤ s.heap.objs.size := s₀.size
 refine (fun core => codeAny_compStart_list core (It.self 0 _ _ _ _ pI1 core)) ?_
 all_goals
  let Inv : Nat → Shared → Prop := fun n s' => ∃ (d : CD) (hp : Heap) (tk : Nat), s' = { s with heap := hp, toks := tk } ∧ n + d.j = items.length ∧ CI ω env (compEnvC csc cl H2.objs.size env) φ₀ h₀ ρ I s.heap.objs.size P v turn ok items l H' hp d
  refine codeAny_compLoop_list (env := compEnvC csc cl H2.objs.size env) Inv (fun n s' inv => ?_) items.length ⟨⟨0, φ, H, without v ρ, #[], 0, [], l⟩, h₁, _, rfl, rfl, pI1, S1, F1, Fc, fun x hx => by rw [get_without, if_neg hx], NI, ND, s₀.trans G.wide, eD, .nil, rfl, e0, rfl⟩
  refine hide fun Ψ kΨ => ?_
  obtain ⟨d, hp, tk, rfl, hn, c⟩ := inv
  refine kΨ ?_
  have e := c.e
  cases hj : items[d.j]? with
  | none =>
   have hlen : items.length ≤ d.j := List.getElem?_eq_none_iff.mp hj
   rw [List.drop_eq_nil_of_le hlen] at e
   refine invC e fun hok e => ?_
   have e1 : d.rest = [] ∧ d.H = H' := ⟨(congrArg Prod.fst (Option.some.inj e)).symm, congrArg Prod.snd (Option.some.inj e)⟩
   refine wpAny_sz (It.fin d.j A _ _ d.φ _ _ r R c.p c.s.pre c.S hok hj (by omega) fun h' tk' kk hs => ?_)
   refine hide fun Ψ kΨ => ?_
   obtain ⟨S', F', tv⟩ := (c.NI.to N.own).moved c.S c.F kk hs
   obtain ⟨_, Fc', _⟩ := c.NI.moved c.S c.Fc kk hs
   obtain ⟨ND', eD'⟩ := c.ND.moved2 (fun q => hID q.symm) kk hs c.eD
   obtain ⟨m, hm, _⟩ := Fc'.ns
   refine kΨ ?_
   have o := Fc'.off _ (.head _)
   exact k _ _ h' tk' d.φ d.its d.cnt m (c.s.aside hI kk hs) (e1.2 ▸ S') F' (ND'.to (fresh _ (Nat.le_refl _)).2.2) ⟨hm.lt, o.2.2, o.1, o.2.1, hCenv, Fc'.notTup _ (.head _)⟩ (fun q => hDC q.symm) hm hle0 (Nat.le_trans hle0 hC) eD' (by rw [c.l, e1.1, List.append_nil]; exact c.a.mono tv)
  | some z =>
   rw [drop_cons_of hj] at e
   refine invC e fun hok e => inv2 e fun wv H1 hturn e => inv2 e fun rest' H2' hrest e => ?_
   have e1 : d.rest = wv :: rest' ∧ H2' = H' := ⟨(congrArg Prod.fst (Option.some.inj e)).symm, congrArg Prod.snd (Option.some.inj e)⟩
   refine wpAny_sz (It.item d.j z A _ _ d.φ _ _ r R c.p c.s.pre c.S hok hj fun vv h1 t1 p1 kk xv hs => ?_)
   refine hide fun Ψ kΨ => ?_
   obtain ⟨Sa, Fa, tv⟩ := (c.NI.to N.own).moved c.S c.F kk hs
   obtain ⟨_, Fca, _⟩ := c.NI.moved c.S c.Fc kk hs
   obtain ⟨NDa, eDa⟩ := c.ND.moved2 (fun q => hID q.symm) kk hs c.eD
   have s2 := c.s.aside hI kk hs
   have NIa := c.NI.self hs (It.notTup _ _ p1)
   obtain ⟨oI, hoI⟩ := It.ob _ _ p1
   refine kΨ ?_
   refine wpAny_assign_Name (store_ok (s := ⟨h1, _, _, _, _⟩) (.inl X.kvar) (fun q => by rw [X.kvar] at q; cases q) Sa Fca (tv _ _ xv) fun h2 t2 s3 Sb Fcb _ => ?_)
   have hC0 : h₀.objs.size ≤ H2.objs.size := Nat.le_trans hle0 hC
   have hg1 : ∀ (ρ : Loc) x, x ≠ v → get x (put v z ρ) = get x ρ := fun ρ x hx => by rw [get_put, if_neg hx]
   have Fb := Fa.outer Sa Fca Fcb s3 hCenv (X.out fun x hx => (hg1 _ x hx).trans (c.hg x hx))
   refine hide fun Ψ kΨ => ?_
   obtain ⟨NDb, eDb⟩ := NDa.step s3 eDa
   obtain ⟨NIb, hoIb⟩ := NIa.step s3 hoI
   refine kΨ ?_
   have s4 := s2.transX s3 (own_comp X hC0)
   have Fcb' : FrOk ω (compEnvC csc cl H2.objs.size env) d.φ (put v z ρ) h2 := Fcb.move (List.prefix_refl _) (fun _ _ x => x) (fun _ _ _ x => x) (fun a m => ⟨(Fcb.off a m).1, (Fcb.off a m).2.1⟩) fun x => by
    rw [get_put, get_put]
    by_cases hx : x = v
    ·rw [if_pos hx, if_pos hx]
    ·rw [if_neg hx, if_neg hx, c.hg x hx]
   refine hT z _ wv _ hturn _ A _ ⟨h2, _, _, _, _⟩ d.φ _ R Sb Fcb' fun q h3 t3 φ3 s5 Sc Fcc q5 => ?_
   have Fd := Fb.outer Sb Fcb' Fcc s5 hCenv (X.out (hg1 ρ))
   refine hide fun Ψ kΨ => ?_
   obtain ⟨NDc, eDc⟩ := NDb.step s5 eDb
   obtain ⟨NIc, hoIc⟩ := NIb.step s5 hoIb
   refine kΨ ?_
   have s6 := s4.transX s5 (own_comp X hC0)
   have hdc := ((c.a.mono tv).mono fun _ _ x => x.step Sa s3 Fca.notTup).mono fun _ _ x => x.step Sb s5 Fcb'.notTup
   have hjl := (List.getElem?_eq_some_iff.mp hj).1
   have hsz := hdc.length
   rw [Array.length_toList, c.len] at hsz
   refine wpAny_sz (append_at eDc (fun h4 hs4 ho4 hs' => ?_) (by rw [sizeLine_eq]; omega))
   have kk4 : ∀ a o, a ≠ s.heap.objs.size → h3.get? a = some o → h4.get? a = some o := fun a o n ea => (hs4.2 a n).trans ea
   refine hide fun Ψ kΨ => ?_
   obtain ⟨Se, Fe, tv4⟩ := (NDc.to (fresh _ (Nat.le_refl _)).2.2).moved Sc Fd kk4 hs'
   obtain ⟨_, Fce, _⟩ := NDc.moved Sc Fcc kk4 hs'
   obtain ⟨NIe, hoIe⟩ := NIc.moved2 hID kk4 hs' hoIc
   refine kΨ ?_
   refine ⟨n - 1, by omega, ⟨d.j + 1, φ3, _, put v z ρ, d.its.push q, d.cnt + 1, d.done ++ [wv], rest'⟩, h4, t3, rfl, by show n - 1 + (d.j + 1) = _; omega, It.at_ _ _ _ p1 (fun o ho => by rw [hoI] at ho; cases ho; exact hoIe), Se, Fe, Fce, hg1 ρ, NIe, NDc.self hs' (nD _ _ _ ho4), s6.aside hle0 kk4 hs', ho4, ?_, by rw [List.length_append, c.len]; rfl, e1.2 ▸ hrest, by rw [c.l, e1.1, List.append_assoc]; rfl⟩
   rw [Array.toList_push]; exact (hdc.mono tv4).append (.cons (tv4 _ _ q5) .nil)
theorem adoptD {D : Addr} {its : Array Value} {cnt : Nat} {l : List V} (S : St ω φ H h) (F : FrOk ω env φ ρ h) (N : Aside ω.hb φ env h D) (e : h.get? D = some (listOf its cnt)) (a : All2 (VR ω.K φ h) its.toList l) (hl : l.length ≤ 1000000) (s₀ : Step φ₀ (own env) h₀ φ h) (hD : h₀.objs.size ≤ D) :
  St ω (φ ++ [⟨D, D, 0⟩]) (H ++ [.list l]) h ∧ FrOk ω env (φ ++ [⟨D, D, 0⟩]) ρ h ∧ Step φ₀ (own env) h₀ (φ ++ [⟨D, D, 0⟩]) h ∧ VR ω.K (φ ++ [⟨D, D, 0⟩]) h (.ref D) (.obj H.length) := by
 refine ⟨adopt (h2 := h) S (fun x m => ?_) rfl rfl N.lo (fun _ _ e _ => e) (Nat.le_refl _) (fun t => ⟨rfl, cnt, its, e, a.mono fun _ _ z => t _ _ z, hl⟩), F.move (List.prefix_append _ _) (fun _ _ t => t) (fun _ _ _ e => e) (fun a m => ?_) (fun _ => rfl), ⟨s₀.pre.trans (List.prefix_append _ _), s₀.keep, s₀.size, fun l m => ?_⟩, ?_⟩
 ·rw [List.mem_singleton.mp m]
  refine ⟨N.tup, N.a, N.d, ?_⟩
  cases q : ω.hb.get? D with
  | none => rfl
  | some _ => exact absurd (Heap.lt_size q) (Nat.not_lt.mpr N.lo)
 ·have hne : a ≠ D := fun q => N.own (q ▸ m)
  rw [List.map_append, List.mem_append, List.map_append, List.mem_append]
  refine ⟨fun q => ?_, fun q => ?_⟩
  ·rcases q with q | q
   ·exact (F.off a m).1 q
   ·simp at q; exact hne q
  ·rcases q with q | q
   ·exact (F.off a m).2.1 q
   ·simp at q; exact hne q
 ·rcases List.mem_append.mp m with m | m
  ·exact s₀.fresh l m
  ·rw [List.mem_singleton.mp m]; exact .inr ⟨hD, hD⟩
 ·exact S.new _
theorem compG_len {turn : V → MH → Option (V × MH)} {ok : MH → Bool} : ∀ {items l : List V} {H H' : MH}, compG turn ok items H = some (l, H') → l.length = items.length
 | [], l, H, H', e => invC e fun _ e => by cases e; rfl
 | x :: r, l, H, H', e => invC e fun _ e => inv2 e fun w H1 _ e => inv2 e fun l' H2 q e => by
  cases e
  exact congrArg (· + 1) (compG_len q)
theorem compL_compG {turn : V → MH → Option (V × MH)} : ∀ (l : List V) (H : MH), compL turn l H = compG turn (fun _ => true) l H
 | [], H => (if_pos rfl).symm
 | v :: l, H => (congrArg (o2 (turn v H)) (funext fun w => funext fun H => congrArg (fun x => o2 x fun l H => some (w :: l, H)) (compL_compG l H))).trans (if_pos rfl).symm
noncomputable def IterOk (ω : Gd) (r : Nat) (env : Env) (ρ : Loc) (H : MH) (iter : Expr) (ok : MH → Bool) (items : List V) (H₁ : MH) : Prop :=
 ∀ (A : Around) (E : Value → Shared → Prop) (s : Shared) (φ : List Lc) (Q : Value → Shared → Prop), Room A r → St ω φ H s.heap → FrOk ω env φ ρ s.heap →
  (∀ I h₁ h' tk φ' P, Step φ (own env) s.heap φ' h₁ → Step φ' [] h₁ φ' h' → St ω φ' H₁ h' → FrOk ω env φ' ρ h' → h₁.objs.size ≤ I → Aside ω.hb φ' env h' I → Itr ω φ' I ok items P → P 0 h' → Q (.ref I) { s with heap := h', toks := tk }) →
  wpAny ω.m A (eval iter env) (fun x s₁ => wpAny ω.m A (pyIter x) Q E s₁) E s
theorem iter_range (Y : Hy ω) (T : TabR ω.K) {es : List Expr} {vs items : List V} {npos pos : Pos} (hk : env.kindOf Nm.k_range.str = some .globalImplicit) (hp : allPlain es = true) (y : LOk ω r env ρ H (spliced (backTo pos (starEach es env))) vs H₁) (e : rangeV vs = some items) :
  IterOk ω r env ρ H (.Call (.Name Nm.k_range.str npos) es [] pos) (fun _ => true) items H₁ := fun A E s φ Q R S F k => range_eval Y T hk hp y e R S F k
theorem iter_list {iter : Expr} {i : Nat} {xs : List V} (x : EOk ω r env ρ H (eval iter env) (.obj i) H₁) (hi : H₁[i]? = some (.list xs)) : IterOk ω r env ρ H iter (okV H₁ (.obj i)) xs H₁ := fun A E s φ Q R S F k => by
 refine x A E s φ _ R S F fun v h1 t1 φ1 s1 S1 F1 v1 => ?_
 apply v1.oObj rfl
 refine fun l hl => S1.lst hl hi fun e1 cnt its e2 e3 e4 _ => ?_
 ·refine wpAny_pyIter_list ⟨_, e2, rfl, _, rfl⟩ ?_
  have G := Step.grow (φ := φ1) (push_keep h1 { cls := .type "list_iterator", data := .fields #[.ref l.a, .int 0 0] }) (push_le _ _)
  exact k _ h1 _ _ φ1 _ s1 G (S1.grow (push_keep _ _) (push_le _ _)) (F1.step S1 G) (Nat.le_refl _) (Aside.new S1 F1 (by show Value.type _ ≠ Value.type _; decide) rfl) (itr_list hl hi) ⟨_, Heap.get?_push_size _ rfl, rfl, rfl⟩
theorem E_comp {elt iter : Expr} {px : Pos} {pos : Pos} {ok : MH → Bool} {items l : List V} {turn : V → MH → Option (V × MH)} (X : CSc env csc cl v) (hn : notSet iter = true)
  (hT : ∀ a H z H', turn a H = some (z, H') → ∀ C, EOk ω r (compEnvC csc cl C env) (put v a ρ) H (eval elt (compEnvC csc cl C env)) z H')
  (hI : IterOk ω r env ρ H iter ok items H₁) (hlen : items.length ≤ 1000000) (e : compG turn ok items H₁ = some (l, H₂)) :
  EOk ω r env ρ H (eval (.ListComp elt [⟨.Name v.str px, iter, [], 0⟩] csc pos) env) (.obj H₂.length) (H₂ ++ [.list l]) := fun A E s φ Q R S F k => by
 rw [eval_ListComp]
 refine wpAny_comprehension_free (use := none) rfl (folded_of hn) X.clos X.kind (fun y m hy => (X.loc y m hy).1) (hI A E s φ _ R S F fun I h₁ h' tk φ' P s1 g S1 F1 hI' N It p0 => ?_)
 refine comp_core (s := ⟨h', _, _, _, _⟩) (h₀ := h₁) (φ₀ := φ') (RR := fun acc C => compPost ω.m A E none Q acc C) X hT It hlen R g.wide hI' N p0 S1 F1 e ?_
 intro D C hp tk φ2 its cnt m s2 S2 F2 ND NC hCD hm hD hC eD a
 refine ⟨m, hm, fun h3 hs3 => ?_⟩
 have kk : ∀ a o, a ≠ C → hp.get? a = some o → h3.get? a = some o := fun a o n ea => (hs3.2 a n).trans ea
 have hsz : hp.objs.size ≤ h3.objs.size := by rw [hs3.1]; exact Nat.le_refl _
 refine hide fun Ψ kΨ => ?_
 obtain ⟨S3, F3, tv⟩ := NC.moved S2 F2 kk hsz
 obtain ⟨ND3, eD3⟩ := ND.moved2 (fun q => hCD q.symm) kk hsz eD
 have s3 := s2.aside hC kk hsz
 obtain ⟨S4, F4, s4, x4⟩ := adoptD S3 F3 ND3 eD3 (a.mono tv) (by rw [compG_len e]; exact hlen) s3 hD
 refine kΨ ?_
 exact k _ h3 tk _ (s1.trans s4) S4 F4 x4
theorem S_asgComp {elt iter : Expr} {y : Nm} {py px : Pos} {pos spos : Pos} {ok : MH → Bool} {items l : List V} {turn : V → MH → Option (V × MH)} (X : CSc env csc cl v) (hn : notSet iter = true) (hy : env.kindOf y.str = some .local)
  (hsw : swapsWith (.ListComp elt [⟨.Name v.str px, iter, [], 0⟩] csc pos) (some (.Name y.str py)) spos.line env = pure true)
  (hT : ∀ a H z H', turn a H = some (z, H') → ∀ C, EOk ω r (compEnvC csc cl C env) (put v a ρ) H (eval elt (compEnvC csc cl C env)) z H')
  (hI : IterOk ω r env ρ H iter ok items H₁) (hlen : items.length ≤ 1000000) (e : compG turn ok items H₁ = some (l, H₂)) :
  SOk ω r env ρ H (exec (.Assign [.Name y.str py] (.ListComp elt [⟨.Name v.str px, iter, [], 0⟩] csc pos) spos) env) .next (put y (.obj H₂.length) ρ) (H₂ ++ [.list l]) := fun A E s φ Q R S F k => by
 rw [exec_Assign_Name_used _ _ _ _ hsw]
 refine wpAny_bind (wpAny_standAt (wpAny_bind ?_))
 show wpAny _ A (do let _ ← comprehension (.ListComp elt [⟨.Name v.str px, iter, [], 0⟩] csc pos) csc env _ (newList []) false (eval iter env) (some (assign (.Name y.str py) env))) _ _ s
 refine wpAny_bind (wpAny_mono (wpAny_comprehension_free (use := some (assign (.Name y.str py) env)) (Q := fun _ s' => Q .next s') rfl (folded_of hn) X.clos X.kind (fun y m hy => (X.loc y m hy).1)
  (hI A E s φ _ R S F fun I h₁ h' tk φ' P s1 g S1 F1 hI' N It p0 => ?_)) (fun _ s' hq => wpAny_pure (wpAny_pure hq)) fun _ _ e => e)
 refine comp_core (s := ⟨h', _, _, _, _⟩) (h₀ := h₁) (φ₀ := φ') (RR := fun acc C => compPost ω.m A E (some (assign (.Name y.str py) env)) (fun _ s' => Q .next s') acc C) X hT It hlen R g.wide hI' N p0 S1 F1 e ?_
 intro D C hp tk φ2 its cnt m s2 S2 F2 ND NC hCD hm hD hC eD a
 obtain ⟨S4, F4, s4, x4⟩ := adoptD S2 F2 ND eD a (by rw [compG_len e]; exact hlen) s2 hD
 have NC4 : Aside ω.hb (φ2 ++ [⟨D, D, 0⟩]) env hp C := ⟨NC.lt, NC.lo, fun q => by
  rw [List.map_append, List.mem_append] at q
  rcases q with q | q
  ·exact NC.d q
  ·simp at q; exact hCD q, fun q => by
  rw [List.map_append, List.mem_append] at q
  rcases q with q | q
  ·exact NC.a q
  ·simp at q; exact hCD q, NC.own, NC.tup⟩
 show wpAny _ A (assign (.Name y.str py) env (.ref D)) _ _ _
 refine wpAny_assign_Name (store_ok (s := ⟨hp, _, _, _, _⟩) (.inl hy) (fun q => by rw [hy] at q; cases q) S4 F4 x4 fun h5 t5 s5 S5 F5 x5 => ?_)
 obtain ⟨oc, hoc, hmc⟩ : ∃ o, hp.get? C = some o ∧ True := by
  obtain ⟨o, es, ep, ho, _⟩ := hm
  exact ⟨o, ho, trivial⟩
 obtain ⟨NC5, hoc5⟩ := NC4.step s5 hoc
 refine ⟨m, ?_, fun h6 hs6 => ?_⟩
 ·obtain ⟨o, es, ep, ho, x⟩ := hm
  rw [hoc] at ho; cases ho
  exact ⟨_, es, ep, hoc5, x⟩
 ·have kk : ∀ a o, a ≠ C → h5.get? a = some o → h6.get? a = some o := fun a o n ea => (hs6.2 a n).trans ea
  have hsz : h5.objs.size ≤ h6.objs.size := by rw [hs6.1]; exact Nat.le_refl _
  obtain ⟨S6, F6, tv⟩ := NC5.moved S5 F5 kk hsz
  exact k _ h6 t5 _ (s1.trans ((s4.trans s5).aside hC kk hsz)) S6 F6 .next
end
end
end Mine
namespace Mine
section
open PySem PySem.W PyProof.Rows PySem.Calls
section
variable {ω : Gd} {φ₀ φ φ' : List Lc} {H₀ H H₁ H₂ H₃ H₄ H' : MH} {h₀ h h' : Heap} {env cenv : Env} {ρ ρc ρ' ρ₁ ρ₂ : Loc} {r : Nat} {A : Around} {E : Value → Shared → Prop} {s : Shared} {z z₁ z₂ z₃ : V} {cf : CF}
variable {csc sc : Scope} {cl : List (Str × Addr)} {v : Nm} {C : Addr}
structure Ag (sc : Scope) (env : Env) : Prop where
 k : ∀ x k, sc.names.lookup x = some k → env.kindOf x = some k ∨ (k = .free ∧ env.kindOf x = some .cell)
 cells : CellsOk env
 kind : env.scope.kind = .function
theorem Ag.glob (a : Ag sc env) {x : Str} (e : sc.names.lookup x = some .globalImplicit) : env.kindOf x = some .globalImplicit := by
 rcases a.k _ _ e with q | ⟨q, _⟩
 ·exact q
 ·cases q
theorem Ag.loc (a : Ag sc env) {x : Str} {k : NameKind} (e : sc.names.lookup x = some k) (hk : k = .local ∨ k = .cell ∨ k = .free) : env.kindOf x = some .local ∨ env.kindOf x = some .cell ∨ env.kindOf x = some .free := by
 rcases a.k _ _ e with q | ⟨_, q⟩
 ·rcases hk with rfl | rfl | rfl
  ·exact .inl q
  ·exact .inr (.inl q)
  ·exact .inr (.inr q)
 ·exact .inr (.inl q)
theorem Ag.comp (a : Ag sc env) (X : CSc env csc cl v) : Ag csc (compEnvC csc cl C env) := by
 refine ⟨fun x k e => ?_, fun x e => ?_, X.kind⟩
 ·show (relabel csc env).names.lookup x = some k ∨ (k = .free ∧ (relabel csc env).names.lookup x = some .cell)
  rw [relabel_lookup, e]
  simp only [Option.map_some]
  split
  ·rename_i q
   simp only [Bool.and_eq_true, beq_iff_eq] at q
   exact .inr ⟨q.1.1, rfl⟩
  ·exact .inl rfl
 ·have e : (relabel csc env).names.lookup x = some .cell ∨ (relabel csc env).names.lookup x = some .free := e
  rw [relabel_lookup] at e
  have : csc.names.lookup x = some .free := by
   cases hk : csc.names.lookup x with
   | none => rw [hk] at e; rcases e with e | e <;> cases e
   | some k =>
    rw [hk] at e
    have hn := X.cell _ (lookup_mem hk)
    simp only [Option.map_some, Option.some.injEq] at e
    rcases e with e | e
    ·split at e
     ·rename_i q
      simp only [Bool.and_eq_true, beq_iff_eq] at q
      rw [q.1.1]
     ·exact absurd e hn
    ·split at e
     ·cases e
     ·rw [e]
  exact X.cl2 _ (lookup_mem this) rfl
theorem csc_of (a : Ag sc env) {v : Nm} (e : compSc sc csc v.str = true) : ∃ cl, CSc env csc cl v := by
 unfold compSc at e
 simp only [Bool.and_eq_true, beq_iff_eq, decide_eq_true_eq, List.all_eq_true, bne_iff_ne, ne_eq, Bool.or_eq_true] at e
 refine hide fun Ψ kΨ => ?_
 obtain ⟨⟨⟨⟨e1, e2⟩, e3⟩, e4⟩, e5⟩ := e
 have fr : ∀ p ∈ csc.names, p.2 = .free → csc.names.lookup p.1 = some .free ∧ (env.kindOf p.1 = some .cell ∨ env.kindOf p.1 = some .free) := fun p m hp => by
  rcases e5 p m with q | ⟨q1, q2⟩
  ·exact absurd hp q
  ·refine ⟨q1, ?_⟩
   rcases q2 with q2 | q2
   ·rcases a.k _ _ q2 with q | ⟨q, _⟩
    ·exact .inl q
    ·cases q
   ·rcases a.k _ _ q2 with q | ⟨_, q⟩
    ·exact .inr q
    ·exact .inl q
 obtain ⟨cl, c1, c2, c3, c4⟩ := closure_of (env := env) e4 fun p m hp => a.cells _ (fr p m hp).2
 refine kΨ ?_
 refine ⟨cl, e1, e3, fun p m => (e2 p m).1, fun p m hp => ?_, fr, c2, c3, c4, c1⟩
 rcases (e2 p m).2 with q | q
 ·exact absurd hp q
 ·exact q
section
variable (ω r cf)
structure PE (sc : Scope) (e : Expr) (x : X) : Prop where
 st : notStar e = true
 sl : notSlice e = true
 se : notSet e = true
 sw : notSwap e = true
 ev : ∀ {env ρ H z H'}, Ag sc env → evE cf ρ x H = some (z, H') → EOk ω r env ρ H (eval e env) z H'
 te : ∀ {env ρ H b H'}, Ag sc env → evE cf ρ x H = some (.bool b, H') → TOk ω r env ρ H (isTrue e env (eval e env)) b H'
structure PB (op : BoolOp) (sc : Scope) (l : List Expr) (x : X) : Prop where
 ev : ∀ {env ρ H z H'} (pos : Pos), Ag sc env → evE cf ρ x H = some (z, H') → EOk ω r env ρ H (boolOp pos op (evalEach l env)) z H'
 te : ∀ {env ρ H b H'}, Ag sc env → evE cf ρ x H = some (.bool b, H') → TOk ω r env ρ H (allTrue op l env) b H'
structure PL (sc : Scope) (l : List Expr) (x : X) : Prop where
 pl : allPlain l = true
 ln : ∀ {ρ H vs H'}, evEs cf ρ x H = some (vs, H') → vs.length = l.length
 ev : ∀ {env ρ H vs H'} (pos : Pos), Ag sc env → evEs cf ρ x H = some (vs, H') → LOk ω r env ρ H (spliced (backTo pos (starEach l env))) vs H'
structure PK (sc : Scope) (ks : List (Option Expr)) (vs : List Expr) (x : X) : Prop where
 ze : ks = [] ∧ vs = [] ∧ x = .nil ∨ ∃ a b, x = .cons a b
 ln : ∀ {env : Env} {pos : Pos} {ρ H l H'}, evEs cf ρ x H = some (l, H') → l.length = (pairsOf env pos ks vs).length
 zi : ∀ {env : Env} {pos : Pos}, (evalEachOpt ks env).zip ((evalEach vs env).map fun v => do let x ← v; standAt pos; pure x) = (pairsOf env pos ks vs).map fun p => (some p.1, p.2)
 ev : ∀ {env ρ H l H'} (pos : Pos), Ag sc env → evEs cf ρ x H = some (l, H') → DOk ω r env ρ H (evalPairs (pairsOf env pos ks vs)) l H'
structure PI (sc : Scope) (e : Expr) (x : X) : Prop where
 se : notSet e = true
 ev : ∀ {env ρ H z H' xe v}, Ag sc env → evE cf ρ (.comp xe v x) H = some (z, H') →
  ∃ ok items l H₁ H₂, IterOk ω r env ρ H e ok items H₁ ∧ items.length ≤ 1000000 ∧ compG (fun a H => evE cf (put v a ρ) xe H) ok items H₁ = some (l, H₂) ∧ z = .obj H₂.length ∧ H' = H₂ ++ [.list l]
noncomputable def PP (sc : Scope) : Syn → X → Prop
 | .e e, x => PE ω r cf sc e x
 | .es l, x => PL ω r cf sc l x
 | .an l, x => PB ω r cf .And sc l x
 | .or l, x => PB ω r cf .Or sc l x
 | .kv ks vs, x => PK ω r cf sc ks vs x
 | .it e, x => PI ω r cf sc e x
end
variable {e t b o f elt it : Expr} {l es as : List Expr} {x y u : X} {n : Nm} {p q : Pos} {op : BoolOp}
theorem P_plain (h : ∀ env, isTrue e env (eval e env) = (do let v ← eval e env; standAt e.pos; holding [v] (truthy v)))
  (st : notStar e = true) (sl : notSlice e = true) (se : notSet e = true) (sw : notSwap e = true)
  (ev : ∀ {env ρ H z H'}, Ag sc env → evE cf ρ x H = some (z, H') → EOk ω r env ρ H (eval e env) z H') : PE ω r cf sc e x :=
 ⟨st, sl, se, sw, ev, fun a q => T_of_E (ev a q) (h _)⟩
theorem P_none {k} : PE ω r cf sc (.Constant .none k p) .cnone := P_plain (fun _ => rfl) rfl rfl rfl rfl fun _ e => by apply invV e; exact E_none
theorem P_bool {c k} : PE ω r cf sc (.Constant (.bool c) k p) (.cbool c) := P_plain (fun _ => rfl) rfl rfl rfl rfl fun _ e => by apply invV e; exact E_bool
theorem P_int {i k} : PE ω r cf sc (.Constant (.int i) k p) (.cint i) := P_plain (fun _ => rfl) rfl rfl rfl rfl fun _ e => by apply invV e; exact E_int
theorem P_str {k} : PE ω r cf sc (.Constant (.str n.str) k p) (.cstr n) := P_plain (fun _ => rfl) rfl rfl rfl rfl fun _ e => by apply invV e; exact E_str
theorem P_usub {i k} : PE ω r cf sc (.UnaryOp .USub (.Constant (.int i) k q) p) (.cint (-i)) := P_plain (fun _ => rfl) rfl rfl rfl rfl fun _ e => by apply invV e; exact E_usub
theorem Ag.locIn (a : Ag sc env) {x : Str} (h : locIn sc x) : env.kindOf x = some .local ∨ env.kindOf x = some .cell ∨ env.kindOf x = some .free := by
 rcases h with h | h | h
 ·exact a.loc h (.inl rfl)
 ·exact a.loc h (.inr (.inl rfl))
 ·exact a.loc h (.inr (.inr rfl))
theorem P_loc (h : locIn sc n.str) : PE ω r cf sc (.Name n.str p) (.loc n) := P_plain (fun _ => rfl) rfl rfl rfl rfl fun a e => inv1 e fun v hv e => by
 apply invV e; exact E_loc (a.locIn h) hv
theorem P_glob (Y : Hy ω) (T : Tab ω.K) (h : lk sc n.str .globalImplicit) (m : n ∈ globNames) : PE ω r cf sc (.Name n.str p) (.glob n) := P_plain (fun _ => rfl) rfl rfl rfl rfl fun a e => by
 apply invV e; exact E_glob Y T (a.glob h) m
theorem not_inv (h : evE cf ρ (.not x) H = some (z, H')) {P : V → MH → Prop} (k : ∀ c H1, evE cf ρ x H = some (.bool c, H1) → P (.bool !c) H1) : P z H' := inv2 h fun v H1 e1 h => inv1 h fun c hc h => by
 apply invV h; exact k c H1 (truthy_bool hc ▸ e1)
theorem P_not (a : PE ω r cf sc e x) : PE ω r cf sc (.UnaryOp .Not e p) (.not x) := by
 refine ⟨rfl, rfl, rfl, rfl, fun A h => ?_, fun {env ρ H b H'} A h => ?_⟩
 ·apply not_inv h; exact fun c H1 h1 => E_not (a.ev A h1)
 ·refine not_inv h (P := fun z H' => z = .bool b → TOk ω r env ρ H _ b H') (fun c H1 h1 e => ?_) rfl
  obtain rfl := V.bool.inj e
  exact T_not (a.te A h1)
theorem P_and (a : PB ω r cf .And sc l x) : PE ω r cf sc (.BoolOp .And l p) x := ⟨rfl, rfl, rfl, rfl, fun A h => a.ev _ A h, fun A h => a.te A h⟩
theorem P_or (a : PB ω r cf .Or sc l x) : PE ω r cf sc (.BoolOp .Or l p) x := ⟨rfl, rfl, rfl, rfl, fun A h => a.ev _ A h, fun A h => a.te A h⟩
theorem P_one (a : PE ω r cf sc e x) : PB ω r cf op sc [e] x := ⟨fun _ A h => a.ev A h, fun A h => A_one (a.te A h)⟩
theorem P_bC (hx : ∀ {ρ H z H'}, evE cf ρ u H = some (z, H') → ∃ c H₁, evE cf ρ x H = some (.bool c, H₁) ∧ ((c = (op == .And) ∧ evE cf ρ y H₁ = some (z, H')) ∨ (¬ c = (op == .And) ∧ z = .bool c ∧ H' = H₁)))
  (a : PE ω r cf sc e x) (d : PB ω r cf op sc (t :: l) y) : PB ω r cf op sc (e :: t :: l) u := by
 refine ⟨fun pos A h => ?_, fun A h => ?_⟩
 ·refine hide fun Ψ kΨ => ?_
  obtain ⟨c, H₁, h1, h⟩ := hx h
  refine kΨ ?_
  refine B_cons (a.ev A h1) ?_
  rcases h with ⟨hc, h⟩ | ⟨hc, h⟩
  ·rw [if_pos hc]; exact d.ev pos A h
  ·rw [if_neg hc]; exact h
 ·refine hide fun Ψ kΨ => ?_
  obtain ⟨c, H₁, h1, h⟩ := hx h
  refine kΨ ?_
  refine A_cons (a.te A h1) ?_
  rcases h with ⟨hc, h⟩ | ⟨hc, h, h'⟩
  ·rw [if_pos hc]; exact d.te A h
  ·rw [if_neg hc]; exact ⟨V.bool.inj h, h'⟩
theorem P_anC (a : PE ω r cf sc e x) (d : PB ω r cf .And sc (t :: l) y) : PB ω r cf .And sc (e :: t :: l) (.and x y) := P_bC (fun h => inv2 h fun v H1 e1 h => invT h (fun e h => ⟨true, H1, e ▸ e1, .inl ⟨rfl, h⟩⟩) fun e h => ⟨false, H1, e ▸ e1, .inr ⟨Bool.false_ne_true, by apply invV h; exact ⟨e, rfl⟩⟩⟩) a d
theorem P_orC (a : PE ω r cf sc e x) (d : PB ω r cf .Or sc (t :: l) y) : PB ω r cf .Or sc (e :: t :: l) (.or x y) := P_bC (fun h => inv2 h fun v H1 e1 h => invT h (fun e h => ⟨true, H1, e ▸ e1, .inr ⟨Bool.false_ne_true ∘ Eq.symm, by apply invV h; exact ⟨e, rfl⟩⟩⟩) fun e h => ⟨false, H1, e ▸ e1, .inl ⟨rfl, h⟩⟩) a d
theorem P_bin {op : Operator} {o' : Op} (ho : opOf op = some o') (a : PE ω r cf sc e x) (d : PE ω r cf sc t y) : PE ω r cf sc (.BinOp e op t p) (.bin o' x y) := P_plain (fun _ => rfl) rfl rfl rfl rfl fun A h => inv2 h fun _ _ h1 h => inv2 h fun _ _ h2 h => E_bin ho (a.ev A h1) (d.ev A h2) h
theorem P_ite (a : PE ω r cf sc t x) (c : PE ω r cf sc b y) (d : PE ω r cf sc o u) : PE ω r cf sc (.IfExp t b o p) (.ite x y u) :=
 ⟨rfl, rfl, rfl, rfl, fun A h => inv2 h fun _ _ h1 h => invT h (fun e h => E_ite (c := true) (a.te A (e ▸ h1)) (c.ev A h)) fun e h => E_ite (c := false) (a.te A (e ▸ h1)) (d.ev A h),
  fun A h => inv2 h fun _ _ h1 h => invT h (fun e h => T_ite (c := true) (a.te A (e ▸ h1)) (c.te A h)) fun e h => T_ite (c := false) (a.te A (e ▸ h1)) (d.te A h)⟩
theorem P_nil : PL ω r cf sc [] .nil := ⟨rfl, fun h => by apply invV h; rfl, fun _ _ h => by apply invV h; exact L_nil⟩
theorem P_cons (a : PE ω r cf sc e x) (d : PL ω r cf sc l y) : PL ω r cf sc (e :: l) (.cons x y) := by
 refine ⟨?_, fun h => inv2 h fun _ _ h1 h => inv2 h fun _ _ h2 h => ?_, fun _ A h => inv2 h fun _ _ h1 h => inv2 h fun _ _ h2 h => ?_⟩
 ·unfold allPlain
  rw [a.st, d.pl]; rfl
 ·apply invV h; exact congrArg (· + 1) (d.ln h2)
 ·apply invV h; exact L_cons a.st (a.ev A h1) (d.ev _ A h2)
theorem P_kv0 : PK ω r cf sc [] [] .nil := ⟨.inl ⟨rfl, rfl, rfl⟩, fun h => by apply invV h; rfl, rfl, fun _ _ h => by apply invV h; exact D_nil⟩
theorem P_kvC {ks : List (Option Expr)} (a : PE ω r cf sc e x) (c : PE ω r cf sc t y) (d : PK ω r cf sc ks l u) : PK ω r cf sc (some e :: ks) (t :: l) (.cons (.pair x y) u) := by
 refine ⟨.inr ⟨_, _, rfl⟩, fun h => inv2 h fun _ _ h1 h => inv2 h fun _ _ h2 h => ?_, congrArg (List.cons _) d.zi, fun _ A h => inv2 h fun _ _ h1 h => inv2 h fun _ _ h2 h => inv2 h1 fun _ _ h3 h1 => inv2 h1 fun _ _ h4 h1 => ?_⟩
 ·apply invV h; exact congrArg (· + 1) (d.ln h2)
 ·cases h1
  apply invV h; exact D_cons (a.ev A h3) (c.ev A h4) (d.ev _ A h2)
theorem P_dict {ks : List (Option Expr)} (d : PK ω r cf sc ks l x) : PE ω r cf sc (.Dict ks l p) (.dict x) := P_plain (fun _ => rfl) rfl rfl rfl rfl fun {env' _ _ _ _} A h => inv2 h fun vs H1 h1 h => invC h fun hl h => inv1 h fun o ho h => by
 apply invV h
 rcases d.ze with ⟨rfl, rfl, rfl⟩ | ⟨a, b, rfl⟩
 ·cases h1; cases ho; exact E_dict0
 ·have hv : vs ≠ [] := inv2 h1 fun _ _ _ h1 => inv2 h1 fun _ _ _ h1 e => List.cons_ne_nil _ _ ((congrArg Prod.fst (Option.some.inj h1)).trans e)
  have ln := d.ln (env := env') (pos := p) h1
  exact E_dict (fun q => hv (List.length_eq_zero_iff.mp (ln.trans (congrArg List.length q)))) d.zi (ln ▸ hl) hv (d.ev _ A h1) hl ho
theorem P_list (d : PL ω r cf sc l x) : PE ω r cf sc (.List l p) (.list x) := P_plain (fun _ => rfl) rfl rfl rfl rfl fun A h => inv2 h fun _ _ h1 h => invC h fun hl h => by
 apply invV h; exact E_list (d.ev _ A h1) hl
theorem P_pair {k} (a : PE ω r cf sc e x) (d : PE ω r cf sc t y) : PE ω r cf sc (.Tuple [e, t] k p) (.pair x y) := P_plain (fun _ => rfl) rfl rfl rfl rfl fun A h => inv2 h fun _ _ h1 h => inv2 h fun _ _ h2 h => by
 apply invV h; exact E_pair a.st d.st (a.ev A h1) (d.ev A h2)
theorem inC_inv {neg : Bool} {ss : List Nm} (h : evE cf ρ (.inC neg x ss) H = some (z, H')) {P : V → MH → Prop} (k : ∀ s H1, evE cf ρ x H = some (.str s, H1) → ss.length ≤ 100 → P (.bool (neg.xor (decide (s ∈ ss)))) H1) : P z H' :=
 inv2 h fun v H1 h1 h => invS h fun s es h => invC h fun hl h => by apply invV h; exact k s H1 (es ▸ h1) hl
theorem P_inC {op : CmpOp} {neg : Bool} {ss : List Nm} {k} (ho : (op = .In ∧ neg = false) ∨ (op = .NotIn ∧ neg = true)) (hs : strsOf es = some ss) (a : PE ω r cf sc e x) : PE ω r cf sc (.Compare e [op] [.Tuple es k q] p) (.inC neg x ss) := by
 refine ⟨rfl, rfl, rfl, rfl, fun A h => ?_, fun {env ρ H b H'} A h => ?_⟩
 ·apply inC_inv h; exact fun s H1 h1 hl => E_inC ho hs hl (a.ev A h1)
 ·refine inC_inv h (P := fun z H' => z = .bool b → TOk ω r env ρ H _ b H') (fun s H1 h1 hl e => ?_) rfl
  obtain rfl := V.bool.inj e
  exact T_inC ho hs hl (a.ev A h1)
theorem cmp_inv {o : Cm} (h : evE cf ρ (.cmp o x y) H = some (z, H')) {P : V → MH → Prop} (k : ∀ a b c H1 H2, evE cf ρ x H = some (a, H1) → evE cf ρ y H1 = some (b, H2) → cmpV H2 o a b = some c → P (.bool c) H2) : P z H' :=
 inv2 h fun v H1 h1 h => inv2 h fun v2 H2 h2 h => inv1 h fun c hc h => by apply invV h; exact k v v2 c H1 H2 h1 h2 hc
theorem P_cmp (Y : Hy ω) (T : Tab ω.K) {op : CmpOp} {o : Cm} (ho : cmOf op = some o) (a : PE ω r cf sc e x) (d : PE ω r cf sc t y) : PE ω r cf sc (.Compare e [op] [t] p) (.cmp o x y) := by
 refine ⟨rfl, rfl, rfl, rfl, fun A h => ?_, fun {env ρ H b H'} A h => ?_⟩
 ·apply cmp_inv h; exact fun _ _ _ _ _ h1 h2 hc => E_cmp Y T d.se ho (a.ev A h1) (d.ev A h2) hc
 ·refine cmp_inv h (P := fun z H' => z = .bool b → TOk ω r env ρ H _ b H') (fun _ _ _ _ _ h1 h2 hc e => ?_) rfl
  obtain rfl := V.bool.inj e
  exact T_cmp Y T d.se ho (a.ev A h1) (d.ev A h2) hc
theorem cmp2_inv {o o' : Cm} (h : evE cf ρ (.cmp2 o o' x y u) H = some (z, H')) {P : V → MH → Prop} (k : ∀ a b c H1 H2, evE cf ρ x H = some (a, H1) → evE cf ρ y H1 = some (b, H2) → cmpV H2 o a b = some c → (c = false → P (.bool false) H2) ∧ (c = true → ∀ d e H3, evE cf ρ u H2 = some (d, H3) → cmpV H3 o' b d = some e → P (.bool e) H3)) : P z H' :=
 inv2 h fun v H1 h1 h => inv2 h fun v2 H2 h2 h => invO h (fun hc h => inv2 h fun d H3 h3 h => inv1 h fun e he h => by apply invV h; exact (k v v2 true H1 H2 h1 h2 hc).2 rfl d e H3 h3 he)
  fun hc h => by apply invV h; exact (k v v2 false H1 H2 h1 h2 hc).1 rfl
theorem P_cmp2 (Y : Hy ω) (T : Tab ω.K) {op op' : CmpOp} {o o' : Cm} (ho : cmOf op = some o) (ho' : cmOf op' = some o') (a : PE ω r cf sc e x) (c : PE ω r cf sc t y) (d : PE ω r cf sc f u) : PE ω r cf sc (.Compare e [op, op'] [t, f] p) (.cmp2 o o' x y u) := by
 refine ⟨rfl, rfl, rfl, rfl, fun A h => ?_, fun {env ρ H b H'} A h => ?_⟩
 ·apply cmp2_inv h
  exact fun _ _ _ _ _ h1 h2 hc => ⟨fun e => E_cmp2 (z₃ := .none) Y T d.se ho ho' (a.ev A h1) (c.ev A h2) hc (.inl ⟨e, rfl, rfl⟩), fun e _ _ _ h3 ht => E_cmp2 Y T d.se ho ho' (a.ev A h1) (c.ev A h2) hc (.inr ⟨e, d.ev A h3, ht⟩)⟩
 ·refine cmp2_inv h (P := fun z H' => z = .bool b → TOk ω r env ρ H _ b H') (fun _ _ _ _ _ h1 h2 hc => ⟨fun e q => ?_, fun e _ _ _ h3 ht q => ?_⟩) rfl
  ·obtain rfl := V.bool.inj q
   exact T_cmp2 (z₃ := .none) Y T d.se ho ho' (a.ev A h1) (c.ev A h2) hc (.inl ⟨e, rfl, rfl⟩)
  ·obtain rfl := V.bool.inj q
   exact T_cmp2 Y T d.se ho ho' (a.ev A h1) (c.ev A h2) hc (.inr ⟨e, d.ev A h3, ht⟩)
theorem P_meth (Y : Hy ω) (T : Tab ω.K) (Cc : COk ω r cf) (h1 : notCall o = true) (h2 : (q.endLine == p.line) = true) (a : PE ω r cf sc o x) (d : PL ω r cf sc as y) : PE ω r cf sc (.Call (.Attribute o n.str q) as [] p) (.meth x n y) := P_plain (fun _ => rfl) rfl rfl rfl rfl fun A h =>
 inv2 h fun _ _ h3 h => inv1 h fun _ hm h => inv2 h fun _ _ h4 h => invC h fun hl h => E_meth Y T Cc h1 h2 d.pl (d.ln h4 ▸ hl) (a.ev A h3) hm (d.ev _ A h4) h
theorem P_call (Y : Hy ω) (Cc : COk ω r cf) (hf : notAttr f = true) (a : PE ω r cf sc f x) (d : PL ω r cf sc as y) : PE ω r cf sc (.Call f as [] p) (.call x y) := P_plain (fun _ => rfl) rfl rfl rfl rfl fun A h => inv2 h fun _ _ h3 h => inv2 h fun _ _ h4 h => E_call Y Cc hf d.pl (a.ev A h3) (d.ev _ A h4) h
theorem P_attr (Y : Hy ω) (T : Tab ω.K) (hc : notCall e = true) (a : PE ω r cf sc e x) : PE ω r cf sc (.Attribute e n.str p) (.attr x n) := P_plain (fun _ => rfl) rfl rfl rfl rfl fun A h => inv2 h fun _ _ h1 h => inv1 h fun _ h2 h => by
 apply invV h; exact E_attr Y T hc (a.ev A h1) h2
theorem P_sub (a : PE ω r cf sc e x) (d : PE ω r cf sc t y) : PE ω r cf sc (.Subscript e t p) (.sub x y) := P_plain (fun _ => rfl) rfl rfl rfl rfl fun A h => inv2 h fun _ _ h1 h => inv2 h fun _ _ h2 h => inv1 h fun _ h3 h => by
 apply invV h; exact E_sub d.sl (a.ev A h1) (d.ev A h2) h3
theorem P_comp (hc : compSc sc csc n.str = true) (a : PE ω r cf csc elt x) (d : PI ω r cf sc it y) : PE ω r cf sc (.ListComp elt [⟨.Name n.str q, it, [], 0⟩] csc p) (.comp x n y) := P_plain (fun _ => rfl) rfl rfl rfl rfl fun A h => by
 refine hide fun Ψ kΨ => ?_
 obtain ⟨cl, X⟩ := csc_of A hc
 obtain ⟨ok, items, l, H1, H2, c1, c2, c3, rfl, rfl⟩ := d.ev A h
 refine kΨ ?_
 exact E_comp X d.se (fun q H z H' hq C => a.ev (A.comp X) hq) c1 c2 c3
theorem rangeV_len {vs items : List V} (e : rangeV vs = some items) : items.length ≤ 1000000 :=
 rangeV_cases e (fun _ _ n _ _ h _ _ hn => by rw [h, stepFrom_len]; omega) fun _ _ _ _ _ _ n _ _ _ _ h _ _ _ hn => by rw [h, stepFrom_len]; omega
theorem P_itR (Y : Hy ω) (TR : TabR ω.K) (hl : lk sc Nm.k_range.str .globalImplicit) (d : PL ω r cf sc as x) : PI ω r cf sc (.Call (.Name Nm.k_range.str q) as [] p) (.range x) := ⟨rfl, fun {env ρ H z H' xe v} A h => by
 have h : (o2 (evEs cf ρ x H) fun vs H => o1 (rangeV vs) fun items => o2 (compL (fun a H => evE cf (put v a ρ) xe H) items H) fun l H => some (V.obj H.length, H ++ [.list l])) = some (z, H') := h
 refine inv2 h fun _ _ h1 h => inv1 h fun _ h2 h => inv2 h fun _ _ h3 h => ?_
 rw [compL_compG] at h3
 apply invV h
 exact ⟨_, _, _, _, _, iter_range Y TR (A.glob hl) d.pl (d.ev _ A h1) h2, rangeV_len h2, h3, rfl, rfl⟩⟩
theorem P_itL (a : PE ω r cf sc e (.loc n)) : PI ω r cf sc e (.loc n) := ⟨a.se, fun {env ρ H z H' xe v} A h => inv1 h fun u h0 h => invL h fun i l eu h1 h => invC h fun hl h => inv2 h fun _ _ h2 h => by
 apply invV h
 subst eu
 exact ⟨_, _, _, _, _, iter_list (a.ev A (show o1 (get n ρ) (fun v => some (v, H)) = some (.obj i, H) by rw [h0]; rfl)) h1, by omega, h2, rfl, rfl⟩⟩
theorem snd (Y : Hy ω) (T : Tab ω.K) (TR : TabR ω.K) (Cc : COk ω r cf) {sy : Syn} (h : Tr sc sy x) : PP ω r cf sc sy x := by
 induction h with
 | cnone => exact P_none
 | cbool => exact P_bool
 | cint => exact P_int
 | cstr h => subst h; exact P_str
 | loc h l => subst h; exact P_loc l
 | glob h l m => subst h; exact P_glob Y T l m
 | usub => exact P_usub
 | not _ a => exact P_not a
 | and _ a => exact P_and a
 | or _ a => exact P_or a
 | bin ho _ _ a b => exact P_bin ho a b
 | ite _ _ _ a b c => exact P_ite a b c
 | dict _ a => exact P_dict a
 | list _ a => exact P_list a
 | pair _ _ a b => exact P_pair a b
 | inC ho hs _ a => exact P_inC ho hs a
 | cmp ho _ _ a b => exact P_cmp Y T ho a b
 | cmp2 ho ho' _ _ _ a b c => exact P_cmp2 Y T ho ho' a b c
 | meth hn h1 h2 _ _ a b => subst hn; exact P_meth Y T Cc h1 h2 a b
 | call h _ _ a b => exact P_call Y Cc h a b
 | attr hn h _ a => subst hn; exact P_attr Y T h a
 | sub _ _ a b => exact P_sub a b
 | comp hn hc _ _ a b => subst hn; exact P_comp hc a b
 | nil => exact P_nil
 | cons _ _ a b => exact P_cons a b
 | an1 _ a => exact P_one a
 | anC _ _ a b => exact P_anC a b
 | or1 _ a => exact P_one a
 | orC _ _ a b => exact P_orC a b
 | kv0 => exact P_kv0
 | kvC _ _ _ a b c => exact P_kvC a b c
 | itR hs l _ a => subst hs; exact P_itR Y TR l a
 | itL _ a => exact P_itL a
end
end
end Mine
namespace Mine
section
open PySem PySem.W PyProof.Rows PySem.Calls
section
variable {ω : Gd} {φ₀ φ φ' : List Lc} {H₀ H H₁ H₂ H₃ H₄ H' : MH} {h₀ h h' : Heap} {env cenv : Env} {ρ ρc ρ' ρ₁ ρ₂ : Loc} {r : Nat} {A : Around} {E : Value → Shared → Prop} {s : Shared} {z z₁ z₂ z₃ : V} {cf : CF}
variable {csc sc : Scope} {cl : List (Str × Addr)} {v : Nm} {C : Addr}
theorem Ag.inter (a : Ag sc env) : interactive env = false := by
 unfold interactive
 rw [a.kind]; rfl
theorem Ag.lc (a : Ag sc env) {x : Str} (e : sc.names.lookup x = some .local) : env.kindOf x = some .local := by
 rcases a.k _ _ e with q | ⟨q, _⟩
 ·exact q
 ·cases q
theorem Ag.ce (a : Ag sc env) {x : Str} (e : sc.names.lookup x = some .cell) : env.kindOf x = some .cell := by
 rcases a.k _ _ e with q | ⟨q, _⟩
 ·exact q
 ·cases q
theorem items_inv {v : V} {items : List V} (h : itemsV H v = some items) : ∃ i, v = .obj i ∧ (H[i]? = some (.list items) ∨ ∃ kvs, H[i]? = some (.idict kvs) ∧ items = kvs.map fun p => .int p.1) :=
 invob h fun i o e ho h => ⟨i, e, invE h (fun h => invoL h fun l e h => .inl (by rw [ho, e, Option.some.inj h])) fun h => invoD h fun l e h => .inr ⟨l, by rw [ho, e], (Option.some.inj h).symm⟩⟩
section
variable (ω r cf)
structure PS (sc : Scope) (s : Stmt) (x : S) : Prop where
 ev : ∀ {env ρ H f ρ' H'}, Ag sc env → evS cf x ρ H = some (f, ρ', H') → SOk ω r env ρ H (exec s env) f ρ' H'
structure PSs (sc : Scope) (s : List Stmt) (x : S) : Prop where
 ev : ∀ {env ρ H f ρ' H'}, Ag sc env → evS cf x ρ H = some (f, ρ', H') → SOk ω r env ρ H (execs s env) f ρ' H'
noncomputable def PT (sc : Scope) : SSyn → S → Prop
 | .s s, x => PS ω r cf sc s x
 | .ss l, x => PSs ω r cf sc l x
end
variable {e t o i it elt : Expr} {b d : List Stmt} {x y u : X} {m n : Nm} {p q tp : Pos} {st : Stmt} {xs ys : S}
theorem invR3 {α β γ : Type} {a : α} {b : β} {c : γ} {f : α} {x : β} {y : γ} (h : some (a, b, c) = some (f, x, y)) {P : α → β → γ → Prop} (k : P a b c) : P f x y := by cases h; exact k
theorem R_seq (a : PS ω r cf sc st xs) (c : PSs ω r cf sc b ys) : PSs ω r cf sc (st :: b) (.seq xs ys) := .mk fun A h => inv_sq h (fun _ _ h1 h => S_cons (a.ev A h1) (.inl ⟨rfl, c.ev A h⟩)) fun h n => S_cons (a.ev A h) (.inr ⟨n, rfl, rfl, rfl⟩)
theorem R_ret (a : PE ω r cf sc e x) : PS ω r cf sc (.Return (some e) p) (.ret x) := .mk fun A h => inv2 h fun _ _ h1 h => by apply invR3 h; exact S_ret (a.ev A h1)
theorem R_expr (hc : isCompX e = false) (a : PE ω r cf sc e x) : PS ω r cf sc (.Expr e p) (.expr x) := .mk fun A h => inv2 h fun _ _ h1 h => by apply invR3 h; exact S_expr A.inter hc a.sw (a.ev A h1)
theorem R_asg (hl : lk sc n.str .local ∨ lk sc n.str .cell) (hc : isCompX e = false) (a : PE ω r cf sc e x) : PS ω r cf sc (.Assign [.Name n.str q] e p) (.asg n x) := .mk fun A h => inv2 h fun _ _ h1 h => by
 apply invR3 h
 exact S_asg (hl.imp A.lc A.ce) A.cells hc a.sw (a.ev A h1)
theorem R_asgC {vp p : Pos} (hl : lk sc n.str .local) (hp : (q.line == p.line) = true) (hx : (!(csc.names.any fun q => q.1 == n.str && (q.2 == .local || q.2 == .cell))) = true) (hc : compSc sc csc m.str = true) (a : PE ω r cf csc elt x) (d : PI ω r cf sc it y) :
  PS ω r cf sc (.Assign [.Name n.str q] (.ListComp elt [⟨.Name m.str vp, it, [], 0⟩] csc p) tp) (.asg n (.comp x m y)) := .mk fun {env _ _ _ _ _} A h => inv2 h fun _ _ h1 h => by
 apply invR3 h
 refine hide fun Ψ kΨ => ?_
 obtain ⟨cl, X⟩ := csc_of A hc
 obtain ⟨ok, items, l, H1, H2, c1, c2, c3, rfl, rfl⟩ := d.ev A h1
 refine kΨ ?_
 have hy := A.lc hl
 refine S_asgComp X d.se hy ?_ (fun q H z H' hq C => a.ev (A.comp X) hq) c1 c2 c3
 show (pure (env.blockKind == .function && env.kindOf n.str == some .local && q.line == p.line && !(csc.names.any fun (n', k) => n' == n.str && (k == .local || k == .cell))) : Sem Bool) = pure true
 have hbk : env.blockKind = .function := by unfold Env.blockKind; rw [A.kind]; rfl
 rw [hbk, hy, hp]
 exact congrArg pure hx
theorem R_asg2 {k} {p' : Pos} (h1 : lk sc n.str .local) (h2 : lk sc m.str .local) (ht : isTupleX e = false) (hc : isCompX e = false) (a : PE ω r cf sc e x) : PS ω r cf sc (.Assign [.Tuple [.Name n.str p, .Name m.str q] k tp] e p') (.asg2 n m x) := .mk fun A h => inv2 h fun _ _ h3 h => invi2 h fun _ _ hz h => by
 apply invR3 h
 exact S_asg2 (A.lc h1) (A.lc h2) hc a.sw ht (a.ev A h3) hz
theorem R_asgAttr (Y : Hy ω) (T : Tab ω.K) (a : PE ω r cf sc o x) (c : PE ω r cf sc e y) : PS ω r cf sc (.Assign [.Attribute o n.str q] e p) (.asgAttr x n y) := .mk fun A h => inv2 h fun _ _ h1 h => inv2 h fun _ _ h2 h => inv1 h fun _ h3 h => by
 apply invR3 h; exact S_asgAttr Y T (c.ev A h1) (a.ev A h2) h3
theorem R_asgSub (a : PE ω r cf sc o x) (c : PE ω r cf sc i y) (d : PE ω r cf sc e u) : PS ω r cf sc (.Assign [.Subscript o i q] e p) (.asgSub x y u) := .mk fun A h => inv2 h fun _ _ h1 h => inv2 h fun _ _ h2 h => inv2 h fun _ _ h3 h => inv1 h fun _ h4 h => by
 apply invR3 h; exact S_asgSub (d.ev A h1) (a.ev A h2) (c.ev A h3) h4
theorem R_augLoc {op : Operator} {oo : Op} (hl : lk sc n.str .local) (ho : opOf op = some oo) (a : PE ω r cf sc e x) : PS ω r cf sc (.AugAssign (.Name n.str q) op e p) (.augLoc n oo x) := .mk fun A h => inv1 h fun _ h1 h => invI h fun _ e1 h => inv2 h fun _ _ h2 h => invI h fun _ e2 h => inv1 h fun _ h3 h => by
 apply invR3 h; exact S_augLoc ho (A.lc hl) (e1 ▸ h1) (a.ev A (e2 ▸ h2)) h3
theorem R_augAttr (Y : Hy ω) (T : Tab ω.K) {op : Operator} {oo : Op} (ho : opOf op = some oo) (a : PE ω r cf sc o x) (c : PE ω r cf sc e y) : PS ω r cf sc (.AugAssign (.Attribute o n.str q) op e p) (.augAttr x n oo y) := .mk fun A h => inv2 h fun _ _ h0 h => inv1 h fun _ h1 h => invI h fun _ e1 h => inv2 h fun _ _ h2 h => invI h fun _ e2 h => inv1 h fun _ h3 h => inv1 h fun _ h4 h => by
 apply invR3 h; exact S_augAttr Y T ho (a.ev A h0) (e1 ▸ h1) (c.ev A (e2 ▸ h2)) h3 h4
theorem R_augSub {op : Operator} {oo : Op} (ho : opOf op = some oo) (a : PE ω r cf sc o x) (c : PE ω r cf sc i y) (d : PE ω r cf sc e u) : PS ω r cf sc (.AugAssign (.Subscript o i q) op e p) (.augSub x y oo u) := .mk fun A h => inv2 h fun _ _ h0 h => inv2 h fun _ _ h5 h => inv1 h fun _ h1 h => invI h fun _ e1 h => inv2 h fun _ _ h2 h => invI h fun _ e2 h => inv1 h fun _ h3 h => inv1 h fun _ h4 h => by
 apply invR3 h; exact S_augSub ho c.sl (a.ev A h0) (c.ev A h5) (e1 ▸ h1) (d.ev A (e2 ▸ h2)) h3 h4
theorem R_ifs (a : PE ω r cf sc t x) (c : PSs ω r cf sc b xs) (e : PSs ω r cf sc d ys) : PS ω r cf sc (.If t b d p) (.ifs x xs ys) := .mk fun A h => inv2 h fun _ _ h1 h => invT h (fun q h => S_ifs (c := true) (a.te A (q ▸ h1)) (c.ev A h)) fun q h => S_ifs (c := false) (a.te A (q ▸ h1)) (e.ev A h)
theorem R_whl (a : PE ω r cf sc t x) (c : PSs ω r cf sc b xs) : PS ω r cf sc (.While t b [] p) (.whl x xs) := .mk fun A h => S_whl (fun ρ H v H' b q1 q2 => a.te A (truthy_bool q2 ▸ q1)) (fun ρ H f ρ' H' q => c.ev A q) h
theorem R_forR (Y : Hy ω) (TR : TabR ω.K) {as : List Expr} {rp cp : Pos} (hl : lk sc n.str .local) (hg : lk sc Nm.k_range.str .globalImplicit) (a : PL ω r cf sc as x) (c : PSs ω r cf sc b xs) : PS ω r cf sc (.For (.Name n.str q) (.Call (.Name Nm.k_range.str rp) as [] cp) b [] p) (.forIn n (.range x) xs) := .mk fun {env ρ H f ρ' H'} A h =>
 have h : (o2 (evEs cf ρ x H) fun vs H => o1 (rangeV vs) fun items => forL (fun v ρ H => evS cf xs (put n v ρ) H) items ρ H) = some (f, ρ', H') := h
 inv2 h fun _ _ h1 h => inv1 h fun _ h2 h => S_for_range Y TR (A.glob hg) a.pl (a.ev _ A h1) h2 (fun I P => turn_name (A.lc hl) fun ρ H f ρ' H' q => c.ev A q) h
theorem R_forV (Y : Hy ω) (TR : TabR ω.K) {rp cp : Pos} (hl : lk sc n.str .local) (hg : lk sc Nm.k_reversed.str .globalImplicit) (a : PE ω r cf sc e x) (c : PSs ω r cf sc b xs) : PS ω r cf sc (.For (.Name n.str q) (.Call (.Name Nm.k_reversed.str rp) [e] [] cp) b [] p) (.forIn n (.reversed x) xs) := .mk fun {env ρ H f ρ' H'} A h =>
 have h : (o2 (evE cf ρ x H) fun w H => iL H w fun l => forG (fun v ρ H => evS cf xs (put n v ρ) H) (okV H w) l.reverse ρ H) = some (f, ρ', H') := h
 inv2 h fun _ _ h1 h => invL h fun _ _ e1 h2 h => S_for_rev Y TR (A.glob hg) a.st (a.ev A (e1 ▸ h1)) h2 (fun I P => turn_name (A.lc hl) fun ρ H f ρ' H' q => c.ev A q) (e1 ▸ h)
theorem forIn_plain (h : plainIt x = true) : evS cf (.forIn n x xs) ρ H = o2 (evE cf ρ x H) fun w H => o1 (itemsV H w) fun items => forG (fun v ρ H => evS cf xs (put n v ρ) H) (okV H w) items ρ H := by
 cases x <;> first | rfl | cases h
theorem R_forE (Y : Hy ω) (hl : lk sc n.str .local) (hp : plainIt x = true) (a : PE ω r cf sc e x) (c : PSs ω r cf sc b xs) : PS ω r cf sc (.For (.Name n.str q) e b [] p) (.forIn n x xs) := .mk fun A h => inv2 ((forIn_plain hp).symm.trans h) fun _ _ h1 h => inv1 h fun _ h2 h => by
 obtain ⟨i, e1, hi | ⟨kvs, hi, e2⟩⟩ := items_inv h2
 ·exact S_for_list a.se (a.ev A (e1 ▸ h1)) hi (fun I P => turn_name (A.lc hl) fun ρ H f ρ' H' q => c.ev A q) (e1 ▸ h)
 ·exact S_for_dict Y a.se (a.ev A (e1 ▸ h1)) hi (fun I P => turn_name (A.lc hl) fun ρ H f ρ' H' q => c.ev A q) (e2 ▸ e1 ▸ h)
theorem R_for2 {k} {r' : Pos} (h1 : lk sc n.str .local) (h2 : lk sc m.str .local) (a : PE ω r cf sc e x) (c : PSs ω r cf sc b xs) : PS ω r cf sc (.For (.Tuple [.Name n.str q, .Name m.str r'] k tp) e b [] p) (.forIn2 n m x xs) := .mk fun A h => inv2 h fun _ _ h3 h => invL h fun _ _ e1 hi h =>
 S_for_list a.se (a.ev A (e1 ▸ h3)) hi (fun I P => turn_pair (A.lc h1) (A.lc h2) fun ρ H f ρ' H' q => c.ev A q) (e1 ▸ h)
theorem sndS (Y : Hy ω) (T : Tab ω.K) (TR : TabR ω.K) (Cc : COk ω r cf) {sy : SSyn} (h : TrS sc sy xs) : PT ω r cf sc sy xs := by
 have E : ∀ {sc e x}, Tr sc (.e e) x → PE ω r cf sc e x := fun h => snd Y T TR Cc h
 have I : ∀ {sc e x}, Tr sc (.it e) x → PI ω r cf sc e x := fun h => snd Y T TR Cc h
 induction h with
 | ret a => exact R_ret (E a)
 | ret0 => exact .mk fun _ h => by apply invR3 h; exact S_ret0
 | brk => exact .mk fun _ h => by apply invR3 h; exact S_brk
 | expr h a => exact R_expr h (E a)
 | asgC hn hl hp hx hm hc a b => subst hn; subst hm; exact R_asgC hl hp hx hc (E a) (I b)
 | asg hn hl hc a => subst hn; exact R_asg hl hc (E a)
 | asg2 hn hm h1 h2 ht hc a => subst hn; subst hm; exact R_asg2 h1 h2 ht hc (E a)
 | asgAttr hn a b => subst hn; exact R_asgAttr Y T (E a) (E b)
 | asgSub a b c => exact R_asgSub (E a) (E b) (E c)
 | augLoc hn hl ho a => subst hn; exact R_augLoc hl ho (E a)
 | augAttr hn ho a c => subst hn; exact R_augAttr Y T ho (E a) (E c)
 | augSub ho a c d => exact R_augSub ho (E a) (E c) (E d)
 | ifs a _ _ c d => exact R_ifs (E a) c d
 | whl a _ c => exact R_whl (E a) c
 | forR hn hl hr hg a _ c => subst hn; subst hr; exact R_forR Y TR hl hg (snd Y T TR Cc a) c
 | forV hn hl hr hg a _ c => subst hn; subst hr; exact R_forV Y TR hl hg (E a) c
 | forE hn hl h a _ c => subst hn; exact R_forE Y hl h (E a) c
 | for2 hn hm h1 h2 a _ c => subst hn; subst hm; exact R_for2 h1 h2 (E a) c
 | nil => exact .mk fun _ h => by apply invR3 h; exact S_nil
 | seq _ _ a b => exact R_seq a b
end
end
end Mine
namespace Mine
section
open PySem PySem.W PyProof.Rows PySem.Calls
section
variable {ω : Gd} {φ₀ φ φ' : List Lc} {H₀ H H₁ H₂ H₃ H₄ H' : MH} {h₀ h h' : Heap} {env cenv : Env} {ρ ρc ρ' ρ₁ ρ₂ : Loc} {r : Nat} {A : Around} {E : Value → Shared → Prop} {s : Shared} {z z₁ z₂ z₃ : V} {cf : CF}
variable {csc sc : Scope} {cl : List (Str × Addr)} {v : Nm} {C : Addr}
theorem sound_ss (Y : Hy ω) (T : Tab ω.K) (TR : TabR ω.K) (Cc : COk ω r cf) {b : List Stmt} {x : S} {f : Fl} (a : Ag sc env) (h : TrS sc (.ss b) x) (e : evS cf x ρ H = some (f, ρ', H')) : SOk ω r env ρ H (execs b env) f ρ' H' :=
 (sndS Y T TR Cc h : PSs ω r cf sc b x).ev a e
noncomputable def scOk (sc : Scope) (fn : Fn) : Bool := sc.kind == .function && !sc.isCoroutine && !sc.isGenerator && sc.names.all (fun p => p.2 != .free) && decide ((sc.names.filter fun p => p.2 == .cell).length ≤ 1) &&
 sc.names.all (fun p => p.2 != .cell || sc.names.lookup p.1 == some .cell) && decide fn.params.Nodup && fn.params.all fun n => sc.names.lookup n.str == some .local || sc.names.lookup n.str == some .cell
theorem cellsFrom_none : ∀ (L : List (Str × NameKind)) (n : Nat) (acc : List (Str × Addr)), (L.filter fun p => p.2 == .cell) = [] → cellsFrom n L acc = acc
 | [], _, _, _ => rfl
 | (x, k) :: r, n, acc, h => by
  rw [List.filter_cons] at h
  unfold cellsFrom
  split at h
  ·cases h
  ·rename_i q
   rw [if_neg q]; exact cellsFrom_none r n acc h
theorem cellsFrom_one : ∀ (L : List (Str × NameKind)) (n : Nat), (L.filter fun p => p.2 == .cell).length ≤ 1 → cellsFrom n L [] = (L.filter fun p => p.2 == .cell).map fun p => (p.1, n)
 | [], _, _ => rfl
 | (x, k) :: r, n, h => by
  rw [List.filter_cons] at h ⊢
  unfold cellsFrom
  by_cases q : (k == NameKind.cell) = true
  ·rw [if_pos q] at h ⊢
   rw [if_pos q]
   have : (r.filter fun p => p.2 == .cell) = [] := List.length_eq_zero_iff.mp (by rw [List.length_cons] at h; omega)
   rw [this, cellsFrom_none r _ _ this]; rfl
  ·rw [if_neg q] at h ⊢
   rw [if_neg q]
   exact cellsFrom_one r n h
theorem bindL_off (kindOf : Str → Option NameKind) : ∀ (b : List (Str × Value)) (m : Str → Option Value) (x : Str), x ∉ b.map (·.1) → bindL kindOf b m x = m x
 | [], _, _, _ => rfl
 | (n, v) :: r, m, x, h => by
  rw [List.map_cons, List.mem_cons, not_or] at h
  unfold bindL
  rw [bindL_off kindOf r _ x h.2]
  split
  ·dsimp only; rw [if_neg h.1]
  ·rfl
theorem bindC_off (kindOf : Str → Option NameKind) : ∀ (b : List (Str × Value)) (m : Str → Option Value) (x : Str), x ∉ b.map (·.1) → bindC kindOf b m x = m x
 | [], _, _, _ => rfl
 | (n, v) :: r, m, x, h => by
  rw [List.map_cons, List.mem_cons, not_or] at h
  unfold bindC
  rw [bindC_off kindOf r _ x h.2]
  split
  ·rfl
  ·dsimp only; rw [if_neg h.1]
theorem bind_get {R : Value → V → Prop} (kindOf : Str → Option NameKind) : ∀ (ns : List Nm) (vs : List Value) (xs : List V) (m : Str → Option Value), ns.Nodup → All2 R vs xs → ∀ x X, get x (ns.zip xs) = some X →
  ∃ v, R v X ∧ (kindOf x.str = some .local → bindL kindOf ((ns.map Nm.str).zip vs) m x.str = some v) ∧ (kindOf x.str ≠ some .local → bindC kindOf ((ns.map Nm.str).zip vs) m x.str = some v)
 | [], vs, xs, m, _, _, x, X, e => by simp [get] at e
 | n :: ns, vs, xs, m, nd, a, x, X, e => by
  cases a with
  | nil => simp [get] at e
  | cons a1 a2 =>
   rename_i v1 x1 vs xs
   obtain ⟨nd1, nd2⟩ := List.nodup_cons.mp nd
   rw [List.zip_cons_cons] at e
   unfold get at e
   by_cases q : n = x
   ·subst q
    rw [if_pos rfl] at e
    cases e
    have hoff : n.str ∉ ((ns.map Nm.str).zip vs).map (·.1) := fun hm => by
     refine hide fun Ψ kΨ => ?_
     obtain ⟨p, hp, hpe⟩ := List.mem_map.mp hm
     have := (List.of_mem_zip (a := p.1) (b := p.2) hp).1
     obtain ⟨n', hn', e'⟩ := List.mem_map.mp this
     refine kΨ ?_
     have : n' = n := Nm.inj (e'.trans hpe)
     exact nd1 (this ▸ hn')
    refine ⟨v1, a1, fun hk => ?_, fun hk => ?_⟩
    ·show bindL kindOf ((n.str, v1) :: (ns.map Nm.str).zip vs) m n.str = some v1
     unfold bindL
     rw [bindL_off _ _ _ _ hoff, if_pos hk]; simp
    ·show bindC kindOf ((n.str, v1) :: (ns.map Nm.str).zip vs) m n.str = some v1
     unfold bindC
     rw [bindC_off _ _ _ _ hoff, if_neg hk]; simp
   ·rw [if_neg q] at e
    refine hide fun Ψ kΨ => ?_
    obtain ⟨v, r1, r2, r3⟩ := bind_get kindOf ns vs xs (if kindOf n.str = some .local then fun y => if y = n.str then some v1 else m y else m) nd2 a2 x X e
    obtain ⟨v', r1', r2', r3'⟩ := bind_get kindOf ns vs xs (if kindOf n.str = some .local then m else fun y => if y = n.str then some v1 else m y) nd2 a2 x X e
    refine kΨ ?_
    by_cases hk : kindOf x.str = some .local
    ·exact ⟨v, r1, fun _ => r2 hk, fun q => absurd hk q⟩
    ·exact ⟨v', r1', fun q => absurd q hk, fun _ => r3' hk⟩
structure FnD where
 a : Addr
 oc : Value
 od : Option Addr
 osl : Array (Option Value)
 name : Str
 qual : Str
 params : Arguments
 body : List Stmt
 scope : Scope
 dV : Value
 kV : Value
 doc : Value
 pm : Value
 an : Option Addr
 cdv : Value
 ct : Value
noncomputable def FnD.fd (d : FnD) : FuncData := fnOf d.name d.qual d.params d.body d.scope d.dV d.kV d.doc d.pm d.an d.cdv d.ct
structure FnP (K : Frag) (nm : Nm) (fn : Fn) (d : FnD) : Prop where
 g : gval K nm = some (.ref d.a)
 l : K.lookup d.a = some ⟨d.oc, d.od, .func d.fd, d.osl⟩
 c : codeIn K d.cdv d.qual = true
 k : keepIn K (.ref d.a) = true
 t : TrFn d.scope d.params d.body fn
 s : scOk d.scope fn = true
 b : ∀ avs : List Value, avs.length ≤ fn.params.length → (avs.length + ((fn.dflts.map constV).drop (avs.length + fn.dflts.length - fn.params.length)).length = fn.params.length) →
   ∃ dv : List Value, (∀ S, peek K S (bindArgs d.fd ⟨avs, []⟩) = some ((fn.params.map Nm.str).zip (avs ++ dv))) ∧
    ∀ φ h, All2 (VR K φ h) dv ((fn.dflts.map constV).drop (avs.length + fn.dflts.length - fn.params.length))
noncomputable def FnOk (K : Frag) (nm : Nm) (fn : Fn) : Prop := ∃ d, FnP K nm fn d
structure ScP (sc : Scope) (fn : Fn) : Prop where
 k : sc.kind = .function
 co : sc.isCoroutine = false
 ge : sc.isGenerator = false
 nf : ∀ x, sc.names.lookup x ≠ some .free
 c1 : (sc.names.filter fun p => p.2 == .cell).length ≤ 1
 nd : fn.params.Nodup
 pl : ∀ n ∈ fn.params, sc.names.lookup n.str = some .local ∨ sc.names.lookup n.str = some .cell
theorem scOk_inv {sc : Scope} {fn : Fn} (h : scOk sc fn = true) : ScP sc fn := by
 unfold scOk at h
 simp only [Bool.and_eq_true, beq_iff_eq, Bool.not_eq_true', decide_eq_true_eq, List.all_eq_true, bne_iff_ne, ne_eq, Bool.or_eq_true] at h
 exact ⟨h.1.1.1.1.1.1.1, h.1.1.1.1.1.1.2, h.1.1.1.1.1.2, fun x q => h.1.1.1.1.2 _ (lookup_mem q) rfl, h.1.1.1.2, h.1.2, h.2⟩
structure TabF (K : Frag) (fnTab : Nm → Option Fn) : Prop where
 fn : ∀ nm fn, fnTab nm = some fn → FnOk K nm fn
 cls : ∀ c i, clsTab c = some i → ∃ C fI, gval K c = some (.ref C) ∧ makesIn K C = true ∧ findIn K (.ref C) "__init__" = some (some (.ref fI)) ∧ isFn K (.ref fI) = true ∧ gval K i = some (.ref fI)
theorem run_inv {fn : Fn} {vs : List V} (e : runFn cf fn vs H = some (z, H')) {P : Prop} (k : (vs ++ (fn.dflts.map constV).drop (vs.length + fn.dflts.length - fn.params.length)).length = fn.params.length → vs.length ≤ fn.params.length → en (evS cf fn.body (fn.params.zip (vs ++ (fn.dflts.map constV).drop (vs.length + fn.dflts.length - fn.params.length))) H) = some (z, H') → P) : P :=
 inv1 e fun ρ hρ e => invC hρ fun hl hρ => k hl.1 hl.2 (Option.some.inj hρ ▸ e)
theorem call_frame {sc : Scope} {fn : Fn} (c : ScP sc fn) {all : List V} {avs : List Value} (S : St ω φ H h) (xall : All2 (VR ω.K φ h) avs all) (xk : ∀ b o, h.get? b = some o → h'.get? b = some o)
  (env : Env) (xns : h'.Ns env.locals (bindL env.kindOf ((fn.params.map Nm.str).zip avs) fun _ => none)) (xc : ∀ x c, env.cells.lookup x = some c → h'.IsCell c (bindC env.kindOf ((fn.params.map Nm.str).zip avs) (fun _ => none) x)) (xap : env.cells.Pairwise fun p q => p.2 ≠ q.2) (xab : ∀ x a, (x, a) ∈ env.cells → h.objs.size < a)
  (e1 : env.scope = sc) (e2 : env.globals = mainGlobals) (e3 : env.builtins = builtinsNs) (e4 : env.locals = h.objs.size) (e5 : env.cells = cellsFrom (h.objs.size + 1) sc.names []) (e6 : ∀ x, env.kindOf x = sc.names.lookup x) : FrOk ω env φ (fn.params.zip all) h' ∧ Ag sc env ∧ ∀ a' ∈ own env, h.objs.size ≤ a' := by
 have kt : ∀ a its, IsTup h a its → IsTup h' a its := fun a its ⟨o, ho, r⟩ => ⟨o, xk a o ho, r⟩
 have hcl : ∀ p ∈ env.cells, env.cells.lookup p.1 = some p.2 := fun p hp => by
  rw [e5, cellsFrom_one _ _ c.c1] at hp ⊢
  have hl : ((sc.names.filter fun p => p.2 == .cell).map fun p => (p.1, h.objs.size + 1)).length ≤ 1 := by rw [List.length_map]; exact c.c1
  generalize ((sc.names.filter fun p => p.2 == .cell).map fun p => (p.1, h.objs.size + 1)) = L at hp hl
  match L, hp, hl with
  | [q], hp, _ =>
   obtain ⟨q1, q2⟩ := q
   rw [List.mem_singleton.mp hp]; simp [List.lookup]
 have ownge : ∀ a' ∈ own env, h.objs.size ≤ a' := fun a' m => by
  rcases List.mem_cons.mp m with q | q
  ·rw [q, e4]; exact Nat.le_refl _
  ·refine hide fun Ψ kΨ => ?_
   obtain ⟨p, hp, rfl⟩ := List.mem_map.mp q
   refine kΨ ?_
   exact Nat.le_of_lt (xab p.1 p.2 hp)
 have nf : ∀ x, env.kindOf x ≠ some .free := fun x q => c.nf x (e6 x ▸ q)
 have some_ : ∀ x, env.kindOf x = some .cell → ∃ c, env.cells.lookup x = some c := fun x e => e5 ▸ Option.isSome_iff_exists.mp (cellsFrom_some sc.names (h.objs.size + 1) [] (.inl (e6 x ▸ e)))
 refine ⟨⟨e1 ▸ c.k, e2, e3, ⟨_, xns, fun x V e ek => ?_⟩, fun x c e => ⟨_, xc x c e⟩, fun x V e ek => ?_, fun p hp => ⟨_, xc p.1 p.2 (hcl p hp)⟩, List.pairwise_map.mpr xap, fun a' m => ⟨fun q => ?_, fun q => ?_, Nat.le_trans S.size (ownge a' m)⟩⟩,
  ⟨fun x k e => .inl ((e6 x).trans e), fun x e => some_ x (e.resolve_right (nf x)), e1 ▸ c.k⟩, ownge⟩
 ·refine hide fun Ψ kΨ => ?_
  obtain ⟨v, r1, r2, _⟩ := bind_get (R := VR ω.K φ h) env.kindOf fn.params _ _ (fun _ => none) c.nd xall x V e
  refine kΨ ?_
  exact ⟨v, r2 ek, r1.mono (List.prefix_refl _) kt⟩
 ·have ek := ek.resolve_right (nf _)
  refine hide fun Ψ kΨ => ?_
  obtain ⟨v, r1, _, r3⟩ := bind_get (R := VR ω.K φ h) env.kindOf fn.params _ _ (fun _ => none) c.nd xall x V e
  obtain ⟨cc, hc⟩ := some_ _ ek
  refine kΨ ?_
  have := xc _ _ hc
  rw [r3 (by rw [ek]; decide)] at this
  exact ⟨cc, v, hc, this, r1.mono (List.prefix_refl _) kt⟩
 ·refine hide fun Ψ kΨ => ?_
  obtain ⟨l, ml, e⟩ := List.mem_map.mp q
  refine kΨ ?_
  exact absurd (S.lt ml).1 (Nat.not_lt.mpr (e ▸ ownge a' m))
 ·refine hide fun Ψ kΨ => ?_
  obtain ⟨l, ml, e⟩ := List.mem_map.mp q
  refine kΨ ?_
  exact absurd (S.lt ml).2 (Nat.not_lt.mpr (e ▸ ownge a' m))
theorem run_ok (Y : Hy ω) (T : Tab ω.K) (TR : TabR ω.K) (Cc : COk ω r cf) {nm : Nm} {fn : Fn} {d : FnD} (F : FnP ω.K nm fn d) {avs : List Value} {vs : List V} {R : Result → Shared → Prop} (hh : A.handled = none) (hd : A.depth + 2 * r + 5 ≤ 900) (hu : A.units + 8 * r + 23 ≤ 9000)
  (S : St ω φ H s.heap) (xa : All2 (VR ω.K φ s.heap) avs vs) (e : runFn cf fn vs H = some (z, H'))
  (k : ∀ v h' tk φ', Step φ [] s.heap φ' h' → St ω φ' H' h' → VR ω.K φ' h' v z → R (.ok (.ret v)) { s with heap := h', toks := tk }) : codeAny ω.m A (.call (.ref d.a) ⟨avs, []⟩) R s := run_inv e fun hl1 hl2 e => by
 have c := scOk_inv F.s
 have hav := xa.length
 refine hide fun Ψ kΨ => ?_
 obtain ⟨dv, d1, d2⟩ := F.b avs (by omega) (by rw [hav]; rw [List.length_append] at hl1; exact hl1)
 refine kΨ ?_
 rw [hav] at d2
 have xall := xa.append (d2 φ s.heap)
 generalize vs ++ (fn.dflts.map constV).drop (vs.length + fn.dflts.length - fn.params.length) = all at xall e
 have KI := S.kin Y
 refine codeAny_call_function (fd := d.fd) (body := d.body) (by show _ < 1000; omega) (KI _ _ F.l) rfl c.co c.ge rfl (codeRec_of KI F.c) ?_
 refine kp_binds KI d1 _ _ _ _ ?_
 refine wpAny_newFunctionEnv_cells c.k (fun p m => ?_) fun env he s' x => ?_
 ·have := (List.of_mem_zip (a := p.1) (b := p.2) m).1
  refine hide fun Ψ kΨ => ?_
  obtain ⟨n, hn, hne⟩ := List.mem_map.mp this
  refine kΨ ?_
  rcases c.pl n hn with q | q
  ·exact .inl (hne ▸ q)
  ·exact .inr ⟨hne ▸ q, cellsFrom_some _ _ _ (.inl (hne ▸ q))⟩
 ·refine hide fun Ψ kΨ => ?_
  obtain ⟨⟨⟨h1, tk1, rfl⟩, xns, xk, xf⟩, xc, xap, xab⟩ := x
  have xk : ∀ b o, s.heap.get? b = some o → h1.get? b = some o := xk
  have hel : env.locals = s.heap.objs.size := he ▸ rfl
  obtain ⟨F1, ag, ownge⟩ := call_frame c S xall xk env xns xc xap (fun x a m => hel ▸ xab x a m) (he ▸ rfl) (he ▸ rfl) (he ▸ rfl) (he ▸ rfl) (he ▸ rfl) (fun _ => he ▸ rfl)
  refine kΨ ?_
  have hsz : s.heap.objs.size ≤ h1.objs.size := Nat.le_of_lt (hel ▸ xns.lt)
  have G := Step.grow (φ := φ) xk hsz
  refine ⟨Y.nol.keeps (fun b o e => xk b o (S.base b o e)), codeAny_func ?_⟩
  have RR : Room (A.deeper env) r := ⟨hh, by show A.depth + 1 + 2 * r + 4 ≤ 900; omega, by show A.units + 3 + 8 * r + 20 ≤ 9000; omega⟩
  refine inv_en e (fun ρ2 he => ?_) fun ρ2 he ez => ?_
  ·refine sound_ss Y T TR Cc ag F.t.body he _ _ ⟨h1, _, _, _, _⟩ φ _ RR (S.grow xk hsz) F1 fun fl h2 t2 φ2 s2 S2 F2 v2 => ?_
   apply v2.oRet rfl
   exact fun v x => k _ h2 t2 φ2 (G.transX s2 fun a' m => .inr (ownge a' m)) S2 x
  ·refine sound_ss Y T TR Cc ag F.t.body he _ _ ⟨h1, _, _, _, _⟩ φ _ RR (S.grow xk hsz) F1 fun fl h2 t2 φ2 s2 S2 F2 v2 => ?_
   apply v2.oNext rfl
   exact k _ h2 t2 φ2 (G.transX s2 fun a' m => .inr (ownge a' m)) S2 (ez ▸ .none)
theorem cls_ok (Y : Hy ω) (T : Tab ω.K) (TR : TabR ω.K) {n : Nat} (Cc : COk ω n cf) {nm i : Nm} {init : Fn} (hi : clsTab nm = some i) (TF : ∃ C fI, gval ω.K nm = some (.ref C) ∧ makesIn ω.K C = true ∧ findIn ω.K (.ref C) "__init__" = some (some (.ref fI)) ∧ isFn ω.K (.ref fI) = true ∧ gval ω.K i = some (.ref fI)) (FI : FnOk ω.K i init) {fv : Value} (hg : gval ω.K nm = some fv) {avs : List Value} {vs : List V} {v0 : V} {Q : Value → Shared → Prop} (R : Room A (n + 1))
  (S : St ω φ H s.heap) (xa : All2 (VR ω.K φ s.heap) avs vs) (hrun : runFn cf init (.obj H.length :: vs) (H ++ [.inst nm []]) = some (v0, H')) (hv : isN v0 = true)
  (k : ∀ v h' tk φ', Step φ [] s.heap φ' h' → St ω φ' H' h' → VR ω.K φ' h' v (.obj H.length) → Q v { s with heap := h', toks := tk }) : wpAny ω.m A (call fv avs) Q E s := by
 obtain ⟨C, fI, b1, b2, b3, b4, b5⟩ := TF
 obtain ⟨d, FI⟩ := FI
 cases hg.symm.trans b1
 have hfI : fI = d.a := by have := b5.symm.trans FI.g; cases this; rfl
 subst hfI
 have KI := S.kin Y
 obtain ⟨hh, gg, dd, tt, os⟩ := s
 refine wpAny_call (make_core (makes_of KI b2) (looks_findIn KI b3) (fun self => bind_fn KI self (beq_iff_eq.mp b4)) (.inl rfl) ?_)
 have kk : ∀ a o, hh.get? a = some o → ((hh.push emptyDict).push (instObj C hh.objs.size)).get? a = some o := fun a o e => push_keep _ _ _ _ (push_keep _ _ _ _ e)
 have e1 : ((hh.push emptyDict).push (instObj C hh.objs.size)).get? (hh.objs.size + 1) = some (instObj C hh.objs.size) := by
  have := Heap.get?_push_size (hh.push emptyDict) (o := instObj C hh.objs.size) rfl
  rwa [Heap.size_push] at this
 obtain ⟨S1, s1⟩ := allocX (X := []) (l := ⟨hh.objs.size + 1, hh.objs.size, 0⟩) (o := .inst nm []) S .nil (fun a o e _ => kk a o e) (Nat.le_trans (push_le _ _) (push_le _ _))
  (fun t => ⟨C, [], 0, b1, by rw [hi]; rfl, e1, push_keep _ _ _ _ (Heap.get?_push_size _ rfl), .nil, (fun p (m : p ∈ ([] : List (Nm × V))) => nomatch m), Nat.zero_le _⟩) (Nat.le_succ _) (Nat.le_refl _)
 have xo : VR ω.K (φ ++ [⟨hh.objs.size + 1, hh.objs.size, 0⟩]) ((hh.push emptyDict).push (instObj C hh.objs.size)) (.ref (hh.objs.size + 1)) (.obj H.length) := S.new _
 have hw : (Code.builtin "type.__call__" ⟨.ref C :: avs, []⟩).weight ≤ 1 ∧ (Code.builtin "type.__call__" ⟨.ref C :: avs, []⟩).cUnits ≤ 4 := ⟨Nat.le_of_ble_eq_true (by kernel_rfl), Nat.le_of_ble_eq_true (by kernel_rfl)⟩
 refine run_ok (A := A.under (.builtin "type.__call__" ⟨.ref C :: avs, []⟩)) (r := n) (s := ⟨(hh.push emptyDict).push (instObj C hh.objs.size), _, _, _, _⟩) Y T TR Cc FI R.han
  (by have := R.dep; have := hw.1; show A.depth + _ + 2 * n + 5 ≤ 900; omega) (by have := R.uni; have := hw.2; show A.units + _ + 8 * n + 23 ≤ 9000; omega) S1 (.cons xo (xa.mono fun _ _ x => x.step S s1 (fun _ m => nomatch m))) hrun ?_
 intro v h' tk φ' st S' x
 rw [isN_ok T x hv]
 exact ⟨rfl, k _ h' tk φ' (s1.trans st) S' (xo.step S1 st (fun _ m => nomatch m))⟩
theorem allC (Y : Hy ω) (T : Tab ω.K) (TR : TabR ω.K) {fnTab : Nm → Option Fn} (TF : TabF ω.K fnTab) : ∀ n, COk ω n (callF fnTab clsTab n)
 | 0 => ⟨fun f vs H z H' e => (nomatch e), fun f vs H z H' e => (nomatch e)⟩
 | n + 1 => by
  have Cc := allC Y T TR TF n
  refine ⟨fun f vs H z H' e φ h fv x => invG e fun nm ef e => ?_, fun f vs H z H' e A E s φ fv avs Q R S xf xa k => invG e fun nm ef e => ?_⟩
  ·have hg := x.oG ef
   refine invX e (fun hb _ => ?_) fun hb e => invOpt e (fun fn hfn _ => ?_) fun _ e => inv1 e fun i hi _ => ?_
   ·have hg : biVal nm = some fv := by unfold gval at hg; rw [if_pos hb] at hg; exact hg
    unfold biVal at hg
    repeat' split at hg
    all_goals first | (cases hg; exact .inr (.inl ⟨_, rfl⟩)) | (cases hg; exact .inr (.inr ⟨_, rfl⟩)) | cases hg
   ·obtain ⟨d, F⟩ := TF.fn _ _ hfn
    cases hg.symm.trans F.g
    exact .inl F.k
   ·obtain ⟨C, G⟩ := T.cls nm (by rw [hi]; rfl)
    cases hg.symm.trans G.gv
    exact .inl G.keep
  ·have hg := xf.oG ef
   refine invX e (fun hb e => bi_ok Y T R S hb hg xa e k) fun hb e => invOpt e (fun fn hfn e => ?_) fun _ e => inv1 e fun i hi e => inv1 e fun init hinit e => inv2 e fun v0 H2 hrun e => invC e fun hv e => ?_
   ·obtain ⟨d, F⟩ := TF.fn _ _ hfn
    cases hg.symm.trans F.g
    exact wpAny_call (run_ok (r := n) Y T TR Cc F R.han (by have := R.dep; omega) (by have := R.uni; omega) S xa e k)
   ·revert k
    apply invV e
    exact fun k => cls_ok Y T TR Cc hi (TF.cls _ _ hi) (TF.fn _ _ hinit) hg R S xa hrun hv k
end
end
end Mine
namespace Mine
section
open PySem PySem.W PyProof.Rows PySem.Calls
noncomputable def TrO (o : Obj) (fn : Fn) : Prop := ∃ fd b, o.data = .func fd ∧ fd.body = .stmts b ∧ TrFn fd.scope fd.params b fn
noncomputable def trB1 (o : Obj) (fd : FuncData) (h : o.data = .func fd) : (b : FuncBody) → fd.body = b → Option {fn : Fn // TrO o fn}
 | .stmts b, e => o1 (trFn fd.scope b fd.params) fun x => some ⟨x.1, fd, b, h, e, x.2⟩
 | _, _ => none
noncomputable def trD1 (o : Obj) : (d : Data) → o.data = d → Option {fn : Fn // TrO o fn}
 | .func fd, h => trB1 o fd h fd.body rfl
 | _, _ => none
noncomputable def TrL (K : Frag) (a : Addr) (fn : Fn) : Prop := ∃ o, K.lookup a = some o ∧ TrO o fn
noncomputable def trL (K : Frag) (a : Addr) : Option {fn : Fn // TrL K a fn} := o1 (got (K.lookup a)) fun o => o1 (trD1 o.1 o.1.data rfl) fun x => some ⟨x.1, o.1, o.2, x.2⟩
noncomputable def oOk (K : Frag) (o : Obj) (fn : Fn) : Bool := match o.data with
 | .func fd => codeIn K fd.code fd.qualname && scOk fd.scope fn && fd.globals == mainGlobals && fd.closure.isEmpty && fd.builtins == builtinsNs
 | _ => false
noncomputable def okC (K : Frag) (nm : Nm) (a : Addr) (fn : Fn) : Bool := (match gval K nm with | some (.ref b) => b == a | _ => false) && keepIn K (.ref a) && (match K.lookup a with | some o => oOk K o fn | none => false)
theorem mkOkG {K : Frag} {nm : Nm} {fn : Fn} {a : Addr} (h3 : TrL K a fn) (h4 : okC K nm a fn = true)
  (h6 : ∀ o fd b, K.lookup a = some o → o.data = .func fd → fd.body = .stmts b → TrFn fd.scope fd.params b fn → ∀ avs : List Value, avs.length ≤ fn.params.length → (avs.length + ((fn.dflts.map constV).drop (avs.length + fn.dflts.length - fn.params.length)).length = fn.params.length) →
   ∃ dv : List Value, (∀ S, peek K S (bindArgs fd ⟨avs, []⟩) = some ((fn.params.map Nm.str).zip (avs ++ dv))) ∧
    ∀ φ h, All2 (VR K φ h) dv ((fn.dflts.map constV).drop (avs.length + fn.dflts.length - fn.params.length))) : FnOk K nm fn := by
 refine hide fun Ψ kΨ => ?_
 obtain ⟨o, h2, fd, b, hd, hb, h3⟩ := h3
 unfold okC at h4
 rw [h2] at h4
 simp only [Bool.and_eq_true] at h4
 obtain ⟨⟨h1, h5⟩, h4⟩ := h4
 have h1 : gval K nm = some (.ref a) := by
  split at h1
  ·rename_i e; rw [e, beq_iff_eq.mp h1]
  ·cases h1
 unfold oOk at h4
 rw [hd] at h4
 simp only [Bool.and_eq_true, beq_iff_eq, List.isEmpty_iff] at h4
 obtain ⟨⟨⟨⟨c1, c2⟩, c3⟩, c4⟩, c5⟩ := h4
 have h7 := h6 o fd b h2 hd hb h3
 clear h6
 obtain ⟨oc, od, dt, osl⟩ := o
 obtain ⟨name, qual, params, bd, scope, gl, clo, dV, kV, doc, pm, an, cdv, ct, bl⟩ := fd
 refine kΨ ?_
 dsimp only at hd hb h3 c1 c2 c3 c4 c5
 subst hd hb c3 c4 c5
 exact ⟨⟨a, oc, od, osl, name, qual, params, b, scope, dV, kV, doc, pm, an, cdv, ct⟩, h1, h2, c1, h5, h3, c2, h7⟩
section
variable {l : List Value}
theorem len_s {n : Nat} (h : l.length = n + 1) : ∃ a r, l = a :: r ∧ r.length = n := by
 cases l with
 | nil => cases h
 | cons a r => exact ⟨a, r, rfl, Nat.succ.inj h⟩
theorem len0 (h : l.length = 0) : l = [] := List.eq_nil_of_length_eq_zero h
theorem len1 (h : l.length = 1) : ∃ a, l = [a] := by
 obtain ⟨a, r, e, h⟩ := len_s h
 exact ⟨a, e.trans (congrArg _ (List.eq_nil_of_length_eq_zero h))⟩
theorem len2 (h : l.length = 2) : ∃ a b, l = [a, b] := by
 obtain ⟨a, r, e, h⟩ := len_s h
 obtain ⟨b, h⟩ := len1 h
 exact ⟨a, b, e.trans (congrArg _ h)⟩
theorem len3 (h : l.length = 3) : ∃ a b c, l = [a, b, c] := by
 obtain ⟨a, r, e, h⟩ := len_s h
 obtain ⟨b, c, h⟩ := len2 h
 exact ⟨a, b, c, e.trans (congrArg _ h)⟩
theorem len4 (h : l.length = 4) : ∃ a b c d, l = [a, b, c, d] := by
 obtain ⟨a, r, e, h⟩ := len_s h
 obtain ⟨b, c, d, h⟩ := len3 h
 exact ⟨a, b, c, d, e.trans (congrArg _ h)⟩
theorem len5 (h : l.length = 5) : ∃ a b c d e, l = [a, b, c, d, e] := by
 obtain ⟨a, r, x, h⟩ := len_s h
 obtain ⟨b, c, d, e, h⟩ := len4 h
 exact ⟨a, b, c, d, e, x.trans (congrArg _ h)⟩
theorem len6 (h : l.length = 6) : ∃ a b c d e f, l = [a, b, c, d, e, f] := by
 obtain ⟨a, r, x, h⟩ := len_s h
 obtain ⟨b, c, d, e, f, h⟩ := len5 h
 exact ⟨a, b, c, d, e, f, x.trans (congrArg _ h)⟩
end
noncomputable def fdA (K : Frag) (a : Addr) : Option FuncData := o1 (K.lookup a) fun o => match o.data with
 | .func fd => some fd
 | _ => none
noncomputable def pkA (K : Frag) (a : Addr) (avs : List Value) (S : Setting) : Option (Option (List (Str × Value))) := (fdA K a).map fun fd => peek K S (bindArgs fd ⟨avs, []⟩)
noncomputable def zpA (fn : Fn) (avs : List Value) : Option (Option (List (Str × Value))) := some (some ((fn.params.map Nm.str).zip avs))
section
variable {K : Frag} {nm : Nm} {fn : Fn} {ad : Addr} (h3 : TrL K ad fn) (h4 : (okC K nm ad fn && fn.dflts.isEmpty) = true)
include h3 h4
theorem mkOkV (hb : ∀ avs, avs.length = fn.params.length → ∀ S, pkA K ad avs S = zpA fn avs) : FnOk K nm fn := by
 rw [Bool.and_eq_true] at h4
 refine mkOkG h3 h4.1 fun o fd b h2 hd _ _ avs l1 l2 => ?_
 rw [List.isEmpty_iff.mp h4.2] at l2 ⊢
 rw [List.map_nil, List.drop_nil] at l2 ⊢
 refine ⟨[], fun S => ?_, fun φ h => .nil⟩
 rw [List.append_nil]
 have e : fdA K ad = some fd := by
  unfold fdA
  rw [h2]
  show (match o.data with | .func fd => some fd | _ => none) = _
  rw [hd]
 have h := hb avs l2 S
 unfold pkA at h
 rw [e] at h
 exact Option.some.inj h
theorem mkOk0 (hp : fn.params.length = 0) (hb : ∀ S, pkA K ad [] S = zpA fn []) : FnOk K nm fn := mkOkV h3 h4 fun avs l S => by
 rw [len0 (l.trans hp)]; exact hb S
theorem mkOk1 (hp : fn.params.length = 1) (hb : ∀ a S, pkA K ad [a] S = zpA fn [a]) : FnOk K nm fn := mkOkV h3 h4 fun avs l S => by
 obtain ⟨a, e⟩ := len1 (l.trans hp)
 rw [e]; exact hb a S
theorem mkOk2 (hp : fn.params.length = 2) (hb : ∀ a b S, pkA K ad [a, b] S = zpA fn [a, b]) : FnOk K nm fn := mkOkV h3 h4 fun avs l S => by
 obtain ⟨a, b, e⟩ := len2 (l.trans hp)
 rw [e]; exact hb a b S
theorem mkOk3 (hp : fn.params.length = 3) (hb : ∀ a b c S, pkA K ad [a, b, c] S = zpA fn [a, b, c]) : FnOk K nm fn := mkOkV h3 h4 fun avs l S => by
 obtain ⟨a, b, c, e⟩ := len3 (l.trans hp)
 rw [e]; exact hb a b c S
theorem mkOk4 (hp : fn.params.length = 4) (hb : ∀ a b c d S, pkA K ad [a, b, c, d] S = zpA fn [a, b, c, d]) : FnOk K nm fn := mkOkV h3 h4 fun avs l S => by
 obtain ⟨a, b, c, d, e⟩ := len4 (l.trans hp)
 rw [e]; exact hb a b c d S
theorem mkOk5 (hp : fn.params.length = 5) (hb : ∀ a b c d f S, pkA K ad [a, b, c, d, f] S = zpA fn [a, b, c, d, f]) : FnOk K nm fn := mkOkV h3 h4 fun avs l S => by
 obtain ⟨a, b, c, d, f, e⟩ := len5 (l.trans hp)
 rw [e]; exact hb a b c d f S
end
end
end Mine
namespace Mine
section
open PySem PySem.W PyProof.Rows PySem.Calls
noncomputable abbrev FT (a : Addr) : Type := {fn : Fn // ∀ P, (trL (Mine.K P) a).map (·.1) = some fn}
noncomputable abbrev OkF (P : Params) (n : Nm) {a : Addr} (F : FT a) : Prop := FnOk (Mine.K P) n F.1
noncomputable def F_k_full : FT 21 := by
 refine ⟨?l, fun P => ?h⟩
 case h =>
  conv => lhs; reduce
  try rfl
theorem ok_k_full (P : Params) : OkF P .k_full F_k_full := mkOk0 (of_map (F_k_full.2 P)) (by kernel_rfl) rfl fun S => by kernel_rfl
noncomputable def F_k_single : FT 28 := by
 refine ⟨?l, fun P => ?h⟩
 case h =>
  conv => lhs; reduce
  try rfl
theorem ok_k_single (P : Params) : OkF P .k_single F_k_single := mkOk1 (of_map (F_k_single.2 P)) (by kernel_rfl) rfl fun a S => by kernel_rfl
noncomputable def F_k_clipped : FT 35 := by
 refine ⟨?l, fun P => ?h⟩
 case h =>
  conv => lhs; reduce
  try rfl
theorem ok_k_clipped (P : Params) : OkF P .k_clipped F_k_clipped := mkOk2 (of_map (F_k_clipped.2 P)) (by kernel_rfl) rfl fun a b S => by kernel_rfl
noncomputable def F_k_add : FT 42 := by
 refine ⟨?l, fun P => ?h⟩
 case h =>
  conv => lhs; reduce
  try rfl
theorem ok_k_add (P : Params) : OkF P .k_add F_k_add := mkOk2 (of_map (F_k_add.2 P)) (by kernel_rfl) rfl fun a b S => by kernel_rfl
noncomputable def F_k_sub : FT 49 := by
 refine ⟨?l, fun P => ?h⟩
 case h =>
  conv => lhs; reduce
  try rfl
theorem ok_k_sub (P : Params) : OkF P .k_sub F_k_sub := mkOk2 (of_map (F_k_sub.2 P)) (by kernel_rfl) rfl fun a b S => by kernel_rfl
noncomputable def F_k_within : FT 91 := by
 refine ⟨?l, fun P => ?h⟩
 case h =>
  conv => lhs; reduce
  try rfl
theorem ok_k_within (P : Params) : OkF P .k_within F_k_within := mkOk2 (of_map (F_k_within.2 P)) (by kernel_rfl) rfl fun a b S => by kernel_rfl
noncomputable def F_k_join : FT 98 := by
 refine ⟨?l, fun P => ?h⟩
 case h =>
  conv => lhs; reduce
  try rfl
theorem ok_k_join (P : Params) : OkF P .k_join F_k_join := mkOk2 (of_map (F_k_join.2 P)) (by kernel_rfl) rfl fun a b S => by kernel_rfl
noncomputable def F_k_widen : FT 105 := by
 refine ⟨?l, fun P => ?h⟩
 case h =>
  conv => lhs; reduce
  try rfl
theorem ok_k_widen (P : Params) : OkF P .k_widen F_k_widen := mkOk2 (of_map (F_k_widen.2 P)) (by kernel_rfl) rfl fun a b S => by kernel_rfl
noncomputable def F_k_meet : FT 112 := by
 refine ⟨?l, fun P => ?h⟩
 case h =>
  conv => lhs; reduce
  try rfl
theorem ok_k_meet (P : Params) : OkF P .k_meet F_k_meet := mkOk2 (of_map (F_k_meet.2 P)) (by kernel_rfl) rfl fun a b S => by kernel_rfl
noncomputable def F_k_below : FT 119 := by
 refine ⟨?l, fun P => ?h⟩
 case h =>
  conv => lhs; reduce
  try rfl
theorem ok_k_below (P : Params) : OkF P .k_below F_k_below := mkOk3 (of_map (F_k_below.2 P)) (by kernel_rfl) rfl fun a b c S => by kernel_rfl
noncomputable def F_k_without : FT 126 := by
 refine ⟨?l, fun P => ?h⟩
 case h =>
  conv => lhs; reduce
  try rfl
theorem ok_k_without (P : Params) : OkF P .k_without F_k_without := mkOk2 (of_map (F_k_without.2 P)) (by kernel_rfl) rfl fun a b S => by kernel_rfl
noncomputable def F_k_apart : FT 133 := by
 refine ⟨?l, fun P => ?h⟩
 case h =>
  conv => lhs; reduce
  try rfl
theorem ok_k_apart (P : Params) : OkF P .k_apart F_k_apart := mkOk2 (of_map (F_k_apart.2 P)) (by kernel_rfl) rfl fun a b S => by kernel_rfl
noncomputable def F_k_narrow : FT 140 := by
 refine ⟨?l, fun P => ?h⟩
 case h =>
  conv => lhs; reduce
  try rfl
theorem ok_k_narrow (P : Params) : OkF P .k_narrow F_k_narrow := mkOk3 (of_map (F_k_narrow.2 P)) (by kernel_rfl) rfl fun a b c S => by kernel_rfl
noncomputable def F_k_opposite : FT 147 := by
 refine ⟨?l, fun P => ?h⟩
 case h =>
  conv => lhs; reduce
  try rfl
theorem ok_k_opposite (P : Params) : OkF P .k_opposite F_k_opposite := mkOk1 (of_map (F_k_opposite.2 P)) (by kernel_rfl) rfl fun a S => by kernel_rfl
noncomputable def F_k_join_envs : FT 175 := by
 refine ⟨?l, fun P => ?h⟩
 case h =>
  conv => lhs; reduce
  try rfl
theorem ok_k_join_envs (P : Params) : OkF P .k_join_envs F_k_join_envs := mkOk2 (of_map (F_k_join_envs.2 P)) (by kernel_rfl) rfl fun a b S => by kernel_rfl
noncomputable def F_k_env_within : FT 182 := by
 refine ⟨?l, fun P => ?h⟩
 case h =>
  conv => lhs; reduce
  try rfl
theorem ok_k_env_within (P : Params) : OkF P .k_env_within F_k_env_within := mkOk2 (of_map (F_k_env_within.2 P)) (by kernel_rfl) rfl fun a b S => by kernel_rfl
noncomputable def F_k_with_slot : FT 189 := by
 refine ⟨?l, fun P => ?h⟩
 case h =>
  conv => lhs; reduce
  try rfl
theorem ok_k_with_slot (P : Params) : OkF P .k_with_slot F_k_with_slot := mkOk3 (of_map (F_k_with_slot.2 P)) (by kernel_rfl) rfl fun a b c S => by kernel_rfl
noncomputable def F_k_followed_slot : FT 196 := by
 refine ⟨?l, fun P => ?h⟩
 case h =>
  conv => lhs; reduce
  try rfl
theorem ok_k_followed_slot (P : Params) : OkF P .k_followed_slot F_k_followed_slot := mkOk2 (of_map (F_k_followed_slot.2 P)) (by kernel_rfl) rfl fun a b S => by kernel_rfl
noncomputable def F_k_type_range : FT 203 := by
 refine ⟨?l, fun P => ?h⟩
 case h =>
  conv => lhs; reduce
  try rfl
theorem ok_k_type_range (P : Params) : OkF P .k_type_range F_k_type_range := mkOk1 (of_map (F_k_type_range.2 P)) (by kernel_rfl) rfl fun a S => by kernel_rfl
noncomputable def F_k_known : FT 210 := by
 refine ⟨?l, fun P => ?h⟩
 case h =>
  conv => lhs; reduce
  try rfl
theorem ok_k_known (P : Params) : OkF P .k_known F_k_known := mkOk1 (of_map (F_k_known.2 P)) (by kernel_rfl) rfl fun a S => by kernel_rfl
noncomputable def F_k_mark : FT 217 := by
 refine ⟨?l, fun P => ?h⟩
 case h =>
  conv => lhs; reduce
  try rfl
theorem ok_k_mark (P : Params) : OkF P .k_mark F_k_mark := mkOk3 (of_map (F_k_mark.2 P)) (by kernel_rfl) rfl fun a b c S => by kernel_rfl
noncomputable def F_k_look_arithmetic : FT 224 := by
 refine ⟨?l, fun P => ?h⟩
 case h =>
  conv => lhs; reduce
  try rfl
theorem ok_k_look_arithmetic (P : Params) : OkF P .k_look_arithmetic F_k_look_arithmetic := mkOk3 (of_map (F_k_look_arithmetic.2 P)) (by kernel_rfl) rfl fun a b c S => by kernel_rfl
noncomputable def F_k_look : FT 250 := by
 refine ⟨?l, fun P => ?h⟩
 case h =>
  conv => lhs; reduce
  try rfl
theorem ok_k_look (P : Params) : OkF P .k_look F_k_look := mkOk3 (of_map (F_k_look.2 P)) (by kernel_rfl) rfl fun a b c S => by kernel_rfl
noncomputable def F_k_look_index : FT 231 := by
 refine ⟨?l, fun P => ?h⟩
 case h =>
  conv => lhs; reduce
  try rfl
theorem ok_k_look_index (P : Params) : OkF P .k_look_index F_k_look_index := mkOk3 (of_map (F_k_look_index.2 P)) (by kernel_rfl) rfl fun a b c S => by kernel_rfl
noncomputable def F_k_quiet : FT 257 := by
 refine ⟨?l, fun P => ?h⟩
 case h =>
  conv => lhs; reduce
  try rfl
theorem ok_k_quiet (P : Params) : OkF P .k_quiet F_k_quiet := mkOk3 (of_map (F_k_quiet.2 P)) (by kernel_rfl) rfl fun a b c S => by kernel_rfl
noncomputable def F_k_assume_relation : FT 264 := by
 refine ⟨?l, fun P => ?h⟩
 case h =>
  conv => lhs; reduce
  try rfl
theorem ok_k_assume_relation (P : Params) : OkF P .k_assume_relation F_k_assume_relation := mkOk4 (of_map (F_k_assume_relation.2 P)) (by kernel_rfl) rfl fun a b c d S => by kernel_rfl
noncomputable def F_k_both_ways : FT 271 := by
 refine ⟨?l, fun P => ?h⟩
 case h =>
  conv => lhs; reduce
  try rfl
theorem ok_k_both_ways (P : Params) : OkF P .k_both_ways F_k_both_ways := mkOk3 (of_map (F_k_both_ways.2 P)) (by kernel_rfl) rfl fun a b c S => by kernel_rfl
noncomputable def F_k_assume : FT 278 := by
 refine ⟨?l, fun P => ?h⟩
 case h =>
  conv => lhs; reduce
  try rfl
theorem ok_k_assume (P : Params) : OkF P .k_assume F_k_assume := mkOk4 (of_map (F_k_assume.2 P)) (by kernel_rfl) rfl fun a b c d S => by kernel_rfl
noncomputable def F_k_nodes_of : FT 328 := by
 refine ⟨?l, fun P => ?h⟩
 case h =>
  conv => lhs; reduce
  try rfl
theorem ok_k_nodes_of (P : Params) : OkF P .k_nodes_of F_k_nodes_of := mkOk1 (of_map (F_k_nodes_of.2 P)) (by kernel_rfl) rfl fun a S => by kernel_rfl
noncomputable def F_k_widen_env : FT 335 := by
 refine ⟨?l, fun P => ?h⟩
 case h =>
  conv => lhs; reduce
  try rfl
theorem ok_k_widen_env (P : Params) : OkF P .k_widen_env F_k_widen_env := mkOk2 (of_map (F_k_widen_env.2 P)) (by kernel_rfl) rfl fun a b S => by kernel_rfl
noncomputable def F_k_run_assign : FT 342 := by
 refine ⟨?l, fun P => ?h⟩
 case h =>
  conv => lhs; reduce
  try rfl
theorem ok_k_run_assign (P : Params) : OkF P .k_run_assign F_k_run_assign := mkOk3 (of_map (F_k_run_assign.2 P)) (by kernel_rfl) rfl fun a b c S => by kernel_rfl
noncomputable def F_k_run_step : FT 349 := by
 refine ⟨?l, fun P => ?h⟩
 case h =>
  conv => lhs; reduce
  try rfl
theorem ok_k_run_step (P : Params) : OkF P .k_run_step F_k_run_step := mkOk3 (of_map (F_k_run_step.2 P)) (by kernel_rfl) rfl fun a b c S => by kernel_rfl
noncomputable def F_k_run_std : FT 356 := by
 refine ⟨?l, fun P => ?h⟩
 case h =>
  conv => lhs; reduce
  try rfl
theorem ok_k_run_std (P : Params) : OkF P .k_run_std F_k_run_std := mkOk3 (of_map (F_k_run_std.2 P)) (by kernel_rfl) rfl fun a b c S => by kernel_rfl
noncomputable def F_k_run_arms : FT 363 := by
 refine ⟨?l, fun P => ?h⟩
 case h =>
  conv => lhs; reduce
  try rfl
theorem ok_k_run_arms (P : Params) : OkF P .k_run_arms F_k_run_arms := mkOk4 (of_map (F_k_run_arms.2 P)) (by kernel_rfl) rfl fun a b c d S => by kernel_rfl
noncomputable def F_k_run : FT 454 := by
 refine ⟨?l, fun P => ?h⟩
 case h =>
  conv => lhs; reduce
  try rfl
theorem ok_k_run (P : Params) : OkF P .k_run F_k_run := mkOk3 (of_map (F_k_run.2 P)) (by kernel_rfl) rfl fun a b c S => by kernel_rfl
noncomputable def F_k_turn_of : FT 377 := by
 refine ⟨?l, fun P => ?h⟩
 case h =>
  conv => lhs; reduce
  try rfl
theorem ok_k_turn_of (P : Params) : OkF P .k_turn_of F_k_turn_of := mkOk3 (of_map (F_k_turn_of.2 P)) (by kernel_rfl) rfl fun a b c S => by kernel_rfl
noncomputable def F_k_for_turn : FT 384 := by
 refine ⟨?l, fun P => ?h⟩
 case h =>
  conv => lhs; reduce
  try rfl
theorem ok_k_for_turn (P : Params) : OkF P .k_for_turn F_k_for_turn := mkOk3 (of_map (F_k_for_turn.2 P)) (by kernel_rfl) rfl fun a b c S => by kernel_rfl
noncomputable def F_k_quiet_turn : FT 391 := by
 refine ⟨?l, fun P => ?h⟩
 case h =>
  conv => lhs; reduce
  try rfl
theorem ok_k_quiet_turn (P : Params) : OkF P .k_quiet_turn F_k_quiet_turn := mkOk3 (of_map (F_k_quiet_turn.2 P)) (by kernel_rfl) rfl fun a b c S => by kernel_rfl
noncomputable def F_k_written_slots : FT 398 := by
 refine ⟨?l, fun P => ?h⟩
 case h =>
  conv => lhs; reduce
  try rfl
theorem ok_k_written_slots (P : Params) : OkF P .k_written_slots F_k_written_slots := mkOk2 (of_map (F_k_written_slots.2 P)) (by kernel_rfl) rfl fun a b S => by kernel_rfl
noncomputable def F_k_loosened : FT 405 := by
 refine ⟨?l, fun P => ?h⟩
 case h =>
  conv => lhs; reduce
  try rfl
theorem ok_k_loosened (P : Params) : OkF P .k_loosened F_k_loosened := mkOk3 (of_map (F_k_loosened.2 P)) (by kernel_rfl) rfl fun a b c S => by kernel_rfl
noncomputable def F_k_run_loop : FT 412 := by
 refine ⟨?l, fun P => ?h⟩
 case h =>
  conv => lhs; reduce
  try rfl
theorem ok_k_run_loop (P : Params) : OkF P .k_run_loop F_k_run_loop := mkOk3 (of_map (F_k_run_loop.2 P)) (by kernel_rfl) rfl fun a b c S => by kernel_rfl
noncomputable def F_k_loop_head : FT 419 := by
 refine ⟨?l, fun P => ?h⟩
 case h =>
  conv => lhs; reduce
  try rfl
theorem ok_k_loop_head (P : Params) : OkF P .k_loop_head F_k_loop_head := mkOk3 (of_map (F_k_loop_head.2 P)) (by kernel_rfl) rfl fun a b c S => by kernel_rfl
noncomputable def F_k_run_for : FT 426 := by
 refine ⟨?l, fun P => ?h⟩
 case h =>
  conv => lhs; reduce
  try rfl
theorem ok_k_run_for (P : Params) : OkF P .k_run_for F_k_run_for := mkOk3 (of_map (F_k_run_for.2 P)) (by kernel_rfl) rfl fun a b c S => by kernel_rfl
noncomputable def F_k_taken_slots : FT 461 := by
 refine ⟨?l, fun P => ?h⟩
 case h =>
  conv => lhs; reduce
  try rfl
theorem ok_k_taken_slots (P : Params) : OkF P .k_taken_slots F_k_taken_slots := mkOk2 (of_map (F_k_taken_slots.2 P)) (by kernel_rfl) rfl fun a b S => by kernel_rfl
noncomputable def F_k_followed_slots : FT 475 := by
 refine ⟨?l, fun P => ?h⟩
 case h =>
  conv => lhs; reduce
  try rfl
theorem ok_k_followed_slots (P : Params) : OkF P .k_followed_slots F_k_followed_slots := mkOk1 (of_map (F_k_followed_slots.2 P)) (by kernel_rfl) rfl fun a S => by kernel_rfl
noncomputable def F_k_analyse : FT 482 := by
 refine ⟨?l, fun P => ?h⟩
 case h =>
  conv => lhs; reduce
  try rfl
theorem ok_k_analyse (P : Params) : OkF P .k_analyse F_k_analyse := mkOk1 (of_map (F_k_analyse.2 P)) (by kernel_rfl) rfl fun a S => by kernel_rfl
noncomputable def F_k_law_bead : FT 567 := by
 refine ⟨?l, fun P => ?h⟩
 case h =>
  conv => lhs; reduce
  try rfl
theorem ok_k_law_bead (P : Params) : OkF P .k_law_bead F_k_law_bead := mkOk2 (of_map (F_k_law_bead.2 P)) (by kernel_rfl) rfl fun a b S => by kernel_rfl
noncomputable def F_k_law_var : FT 574 := by
 refine ⟨?l, fun P => ?h⟩
 case h =>
  conv => lhs; reduce
  try rfl
theorem ok_k_law_var (P : Params) : OkF P .k_law_var F_k_law_var := mkOk3 (of_map (F_k_law_var.2 P)) (by kernel_rfl) rfl fun a b c S => by kernel_rfl
noncomputable def F_k_law_const : FT 581 := by
 refine ⟨?l, fun P => ?h⟩
 case h =>
  conv => lhs; reduce
  try rfl
theorem ok_k_law_const (P : Params) : OkF P .k_law_const F_k_law_const := mkOk2 (of_map (F_k_law_const.2 P)) (by kernel_rfl) rfl fun a b S => by kernel_rfl
noncomputable def F_k_law_loops_right : FT 586 := by
 refine ⟨?l, fun P => ?h⟩
 case h =>
  conv => lhs; reduce
  try rfl
theorem ok_k_law_loops_right (P : Params) : OkF P .k_law_loops_right F_k_law_loops_right := mkOk1 (of_map (F_k_law_loops_right.2 P)) (by kernel_rfl) rfl fun a S => by kernel_rfl
noncomputable def F_k_law_holds : FT 593 := by
 refine ⟨?l, fun P => ?h⟩
 case h =>
  conv => lhs; reduce
  try rfl
theorem ok_k_law_holds (P : Params) : OkF P .k_law_holds F_k_law_holds := mkOk2 (of_map (F_k_law_holds.2 P)) (by kernel_rfl) rfl fun a b S => by kernel_rfl
noncomputable def F_k_law_conditions_right : FT 598 := by
 refine ⟨?l, fun P => ?h⟩
 case h =>
  conv => lhs; reduce
  try rfl
theorem ok_k_law_conditions_right (P : Params) : OkF P .k_law_conditions_right F_k_law_conditions_right := mkOk1 (of_map (F_k_law_conditions_right.2 P)) (by kernel_rfl) rfl fun a S => by kernel_rfl
noncomputable def F_k_Types_new : FT 546 := by
 refine ⟨?l, fun P => ?h⟩
 case h =>
  conv => lhs; reduce
  try rfl
noncomputable def F_k_Ranges_init : FT 161 := by
 refine ⟨?l, fun P => ?h⟩
 case h =>
  conv => lhs; reduce
  try rfl
theorem ok_k_Ranges_init (P : Params) : OkF P .k_Ranges_init F_k_Ranges_init := mkOk3 (of_map (F_k_Ranges_init.2 P)) (by kernel_rfl) rfl fun a b c S => by kernel_rfl
noncomputable def F_k_Node_init : FT 293 := by
 refine ⟨?l, fun P => ?h⟩
 case h =>
  conv => lhs; reduce
  try rfl
noncomputable def F_k_ProcTree_init : FT 314 := by
 refine ⟨?l, fun P => ?h⟩
 case h =>
  conv => lhs; reduce
  try rfl
theorem ok_k_ProcTree_init (P : Params) : OkF P .k_ProcTree_init F_k_ProcTree_init := mkOk2 (of_map (F_k_ProcTree_init.2 P)) (by kernel_rfl) rfl fun a b S => by kernel_rfl
noncomputable def F_k_Type_init : FT 496 := by
 refine ⟨?l, fun P => ?h⟩
 case h =>
  conv => lhs; reduce
  try rfl
theorem ok_k_Type_init (P : Params) : OkF P .k_Type_init F_k_Type_init := mkOk4 (of_map (F_k_Type_init.2 P)) (by kernel_rfl) rfl fun a b c d S => by kernel_rfl
noncomputable def F_k_Obj_init : FT 517 := by
 refine ⟨?l, fun P => ?h⟩
 case h =>
  conv => lhs; reduce
  try rfl
theorem ok_k_Obj_init (P : Params) : OkF P .k_Obj_init F_k_Obj_init := mkOk5 (of_map (F_k_Obj_init.2 P)) (by kernel_rfl) rfl fun a b c d f S => by kernel_rfl
noncomputable def F_k_Types_init : FT 538 := by
 refine ⟨?l, fun P => ?h⟩
 case h =>
  conv => lhs; reduce
  try rfl
theorem ok_k_Types_init (P : Params) : OkF P .k_Types_init F_k_Types_init := mkOk1 (of_map (F_k_Types_init.2 P)) (by kernel_rfl) rfl fun a S => by kernel_rfl
noncomputable def fnTabL : List (Nm × Fn) := [(.k_full, F_k_full.1), (.k_single, F_k_single.1), (.k_clipped, F_k_clipped.1), (.k_add, F_k_add.1), (.k_sub, F_k_sub.1), (.k_within, F_k_within.1), (.k_join, F_k_join.1), (.k_widen, F_k_widen.1), (.k_meet, F_k_meet.1), (.k_below, F_k_below.1), (.k_without, F_k_without.1), (.k_apart, F_k_apart.1), (.k_narrow, F_k_narrow.1), (.k_opposite, F_k_opposite.1), (.k_join_envs, F_k_join_envs.1), (.k_env_within, F_k_env_within.1), (.k_with_slot, F_k_with_slot.1), (.k_followed_slot, F_k_followed_slot.1), (.k_type_range, F_k_type_range.1), (.k_known, F_k_known.1), (.k_mark, F_k_mark.1), (.k_look_arithmetic, F_k_look_arithmetic.1), (.k_look, F_k_look.1), (.k_look_index, F_k_look_index.1), (.k_quiet, F_k_quiet.1), (.k_assume_relation, F_k_assume_relation.1), (.k_both_ways, F_k_both_ways.1), (.k_assume, F_k_assume.1), (.k_nodes_of, F_k_nodes_of.1), (.k_widen_env, F_k_widen_env.1), (.k_run_assign, F_k_run_assign.1), (.k_run_step, F_k_run_step.1), (.k_run_std, F_k_run_std.1), (.k_run_arms, F_k_run_arms.1), (.k_run, F_k_run.1), (.k_turn_of, F_k_turn_of.1), (.k_for_turn, F_k_for_turn.1), (.k_quiet_turn, F_k_quiet_turn.1), (.k_written_slots, F_k_written_slots.1), (.k_loosened, F_k_loosened.1), (.k_run_loop, F_k_run_loop.1), (.k_loop_head, F_k_loop_head.1), (.k_run_for, F_k_run_for.1), (.k_taken_slots, F_k_taken_slots.1), (.k_followed_slots, F_k_followed_slots.1), (.k_analyse, F_k_analyse.1), (.k_law_bead, F_k_law_bead.1), (.k_law_var, F_k_law_var.1), (.k_law_const, F_k_law_const.1), (.k_law_loops_right, F_k_law_loops_right.1), (.k_law_holds, F_k_law_holds.1), (.k_law_conditions_right, F_k_law_conditions_right.1), (.k_Types_new, F_k_Types_new.1), (.k_Ranges_init, F_k_Ranges_init.1), (.k_Node_init, F_k_Node_init.1), (.k_ProcTree_init, F_k_ProcTree_init.1), (.k_Type_init, F_k_Type_init.1), (.k_Obj_init, F_k_Obj_init.1), (.k_Types_init, F_k_Types_init.1)]
noncomputable def fnTab (n : Nm) : Option Fn := get n fnTabL
end
end Mine
namespace Mine
section
open PySem PySem.W PyProof.Rows PySem.Calls
theorem mem_attr {n : Nm} (h : okAttr n = true) : n ∈ okAttrL := of_decide_eq_true h
noncomputable def atChk (K : Frag) (C : Addr) (n : Nm) : Bool := match findIn K (.ref C) n.str with
 | some attr => noGet K attr && (match takerIn K C n.str with | some none => true | _ => false)
 | none => false
theorem at_of {K : Frag} {C : Addr} (h : okAttrL.all (atChk K C) = true) : ∀ n, okAttr n = true → ∃ attr, findIn K (.ref C) n.str = some attr ∧ noGet K attr = true ∧ takerIn K C n.str = some none := fun n hn => by
 have := List.all_eq_true.mp h n (mem_attr hn)
 unfold atChk at this
 split at this
 ·rename_i attr e
  rw [Bool.and_eq_true] at this
  refine ⟨attr, e, this.1, ?_⟩
  have q := this.2
  split at q
  ·assumption
  ·cases q
 ·cases this
noncomputable def isSetattr : Option (Option Value) → Bool
 | some (some (.builtin i)) => i == "object.__setattr__"
 | _ => false
noncomputable def isEqB : Option (Option Value) → Bool
 | some (some (.builtin i)) => i == "object.__eq__"
 | _ => false
noncomputable def clsChk (K : Frag) (C : Addr) : Bool := makesIn K C && plainGet K C "" && hasDictIn K C && isSetattr (findIn K (.ref C) "__setattr__") && plainOver K C && keepIn K (.ref C) && isEqB (findIn K (.ref C) "__eq__") && (mroIn K C (.type "object") == some true)
noncomputable def isG (K : Frag) (c : Nm) (C : Addr) : Bool := match gval K c with | some (.ref b) => b == C | _ => false
theorem isG_of {K : Frag} {c : Nm} {C : Addr} (h : isG K c C = true) : gval K c = some (.ref C) := by
 unfold isG at h
 split at h
 ·rename_i e; rw [e, beq_iff_eq.mp h]
 ·cases h
theorem cls_of {K : Frag} {c : Nm} {C : Addr} (h : (isG K c C && okAttrL.all (atChk K C) && clsChk K C) = true) : ClsOk K c C := by
 rw [Bool.and_eq_true, Bool.and_eq_true] at h
 refine hide fun Ψ kΨ => ?_
 obtain ⟨⟨g, h1⟩, h2⟩ := h
 unfold clsChk at h2
 simp only [Bool.and_eq_true, beq_iff_eq] at h2
 obtain ⟨⟨⟨⟨⟨⟨⟨c1, c2⟩, c3⟩, c4⟩, c5⟩, c6⟩, c7⟩, c8⟩ := h2
 refine kΨ ?_
 refine ⟨isG_of g, c1, c2, c3, ?_, c5, at_of h1, c6, ?_, c8⟩
 ·unfold isSetattr at c4
  split at c4
  ·rename_i i e; rw [e, beq_iff_eq.mp c4]
  ·cases c4
 ·unfold isEqB at c7
  split at c7
  ·rename_i i e; rw [e, beq_iff_eq.mp c7]
  ·cases c7
noncomputable def handChk (K : Frag) (n : Nm) : Bool := match gval K n with
 | some .none => false
 | some v => handedIn v
 | none => true
noncomputable def glChk (K : Frag) (n : Nm) : Bool := if isBi n then (match nsIn K mainGlobals n.str, bootBuiltins n.str, biVal n with
  | some none, some (.builtin a), some (.builtin b) => a == b
  | some none, some (.type a), some (.type b) => a == b
  | _, _, _ => false)
 else match nsIn K mainGlobals n.str, owner n with
  | some (some v), none => (match gv n, v with
   | .int i, .int j _ => i == j
   | .g m, _ => m == n
   | _, _ => false)
  | _, _ => false
theorem gl_of {K : Frag} {n : Nm} (h : glChk K n = true) : (isBi n = true ∧ nsIn K mainGlobals n.str = some none ∧ ∃ v, bootBuiltins n.str = some v ∧ biVal n = some v) ∨
  (isBi n = false ∧ ∃ v, nsIn K mainGlobals n.str = some (some v) ∧ ((∃ i t, gv n = .int i ∧ v = .int i t) ∨ (gv n = .g n ∧ gval K n = some v))) := by
 unfold glChk at h
 split at h
 ·rename_i hb
  left
  split at h
  ·rename_i a b e1 e2 e3
   have := beq_iff_eq.mp h
   subst this
   exact ⟨hb, e1, _, e2, e3⟩
  ·rename_i a b e1 e2 e3
   have := beq_iff_eq.mp h
   subst this
   exact ⟨hb, e1, _, e2, e3⟩
  ·cases h
 ·rename_i hb
  have hb : isBi n = false := by simpa using hb
  right
  split at h
  ·rename_i v e1 e2
   refine ⟨hb, v, e1, ?_⟩
   split at h
   ·rename_i i j t e3
    have := beq_iff_eq.mp h
    subst this
    exact .inl ⟨i, t, e3, rfl⟩
   ·rename_i m e3
    have : m = n := by simpa using h
    subst this
    refine .inr ⟨e3, ?_⟩
    unfold gval
    rw [hb, e2, e1]; rfl
   ·cases h
  ·cases h
theorem tab_mem {β : Type} {k : Nm} {v : β} : ∀ {l : List (Nm × β)}, get k l = some v → (k, v) ∈ l
 | (a, b) :: r, h => by
  unfold get at h
  by_cases e : a = k
  ·rw [if_pos e] at h; cases h; rw [e]; exact List.mem_cons_self ..
  ·rw [if_neg e] at h; exact List.mem_cons_of_mem _ (tab_mem h)
theorem tabR (P : Params) : TabR (Mine.K P) := ⟨⟨by kernel_rfl, by kernel_rfl⟩, ⟨by kernel_rfl, by kernel_rfl⟩⟩
theorem hand_all (P : Params) (n : Nm) : handChk (Mine.K P) n = true := Nm.all (p := handChk (Mine.K P)) (by kernel_rfl) n
theorem gl_all (P : Params) : globNames.all (glChk (Mine.K P)) = true := by kernel_rfl
theorem c_Types (P : Params) : ClsOk (Mine.K P) .k_Types 556 := cls_of (by kernel_rfl)
theorem cls_all (P : Params) : ∀ p ∈ clsTabL, ∃ C, ClsOk (Mine.K P) p.1 C :=
 List.forall_mem_cons.mpr ⟨⟨164, cls_of (by kernel_rfl)⟩, List.forall_mem_cons.mpr ⟨⟨296, cls_of (by kernel_rfl)⟩, List.forall_mem_cons.mpr ⟨⟨317, cls_of (by kernel_rfl)⟩, List.forall_mem_cons.mpr ⟨⟨499, cls_of (by kernel_rfl)⟩,
  List.forall_mem_cons.mpr ⟨⟨520, cls_of (by kernel_rfl)⟩, List.forall_mem_cons.mpr ⟨⟨556, c_Types P⟩, fun _ h => nomatch h⟩⟩⟩⟩⟩⟩
theorem m_new (P : Params) : MethOk (Mine.K P) .k_Types .k_new .k_Types_new := ⟨fun C g => by
 have := (c_Types P).gv
 rw [g] at this
 cases this
 exact ⟨546, by kernel_rfl, by kernel_rfl, by kernel_rfl, by kernel_rfl⟩⟩
theorem hand_of {K : Frag} {n : Nm} {v : Value} (h : handChk K n = true) (g : gval K n = some v) : handedIn v = true ∧ v ≠ .none := by
 unfold handChk at h
 rw [g] at h
 split at h
 ·cases h
 ·rename_i n q; cases q; exact ⟨h, n⟩
 ·rename_i q; cases q
theorem tab (P : Params) : Tab (Mine.K P) := by
 refine ⟨fun c n f h => ?_, fun c h => ?_, fun n v h => (hand_of (hand_all P n) h).1, fun n h => (hand_of (hand_all P n) h).2 rfl, fun n m => gl_of (List.all_eq_true.mp (gl_all P) n m)⟩
 ·unfold insMeth at h
  split at h
  ·rename_i hh; obtain ⟨rfl, rfl⟩ := hh; cases h; exact m_new P
  ·cases h
 ·obtain ⟨i, hi⟩ := Option.isSome_iff_exists.mp h
  exact cls_all P _ (tab_mem hi)
end
end Mine
namespace Mine
section
open PySem PySem.W PyProof.Rows PySem.Calls
theorem ok_k_Node_init (P : Params) : FnOk (Mine.K P) .k_Node_init F_k_Node_init.1 := mkOkG (of_map (F_k_Node_init.2 P)) (by kernel_rfl) (by
 intro o fd b ho hfd _ _ avs l1 l2
 cases (show some _ = some o from ho)
 cases hfd
 have hp : F_k_Node_init.1.params.length = 6 := rfl
 have hd : F_k_Node_init.1.dflts.map constV = [.none] := rfl
 have hd1 : F_k_Node_init.1.dflts.length = 1 := rfl
 rw [hp] at l1 l2
 rw [hd, hd1] at l2 ⊢
 rw [hp]
 have l2 : avs.length + (1 - (avs.length + 1 - 6)) = 6 := by rw [List.length_drop] at l2; exact l2
 rcases (by omega : avs.length = 5 ∨ avs.length = 6) with h | h
 ·refine hide fun Ψ kΨ => ?_
  obtain ⟨a, b, c, d, e, rfl⟩ := len5 h
  refine kΨ ?_
  exact ⟨[.none], fun S => by kernel_rfl, fun φ h => .cons .none .nil⟩
 ·refine hide fun Ψ kΨ => ?_
  obtain ⟨a, b, c, d, e, f, rfl⟩ := len6 h
  refine kΨ ?_
  exact ⟨[], fun S => by kernel_rfl, fun φ h => .nil⟩)
theorem ok_k_Types_new (P : Params) : FnOk (Mine.K P) .k_Types_new F_k_Types_new.1 := mkOkG (of_map (F_k_Types_new.2 P)) (by kernel_rfl) (by
 intro o fd b ho hfd _ _ avs l1 l2
 cases (show some _ = some o from ho)
 cases hfd
 have hp : F_k_Types_new.1.params.length = 5 := rfl
 have hd : F_k_Types_new.1.dflts.map constV = [.str .k_empty, .str .k_empty] := rfl
 have hd1 : F_k_Types_new.1.dflts.length = 2 := rfl
 rw [hp] at l1 l2
 rw [hd, hd1] at l2 ⊢
 rw [hp]
 have l2 : avs.length + (2 - (avs.length + 2 - 5)) = 5 := by rw [List.length_drop] at l2; exact l2
 rcases (by omega : avs.length = 3 ∨ avs.length = 4 ∨ avs.length = 5) with h | h | h
 ·refine hide fun Ψ kΨ => ?_
  obtain ⟨a, b, c, rfl⟩ := len3 h
  refine kΨ ?_
  exact ⟨[.str Nm.k_empty.str 1020, .str Nm.k_empty.str 1021], fun S => by kernel_rfl, fun φ h => .cons (.str _ _) (.cons (.str _ _) .nil)⟩
 ·refine hide fun Ψ kΨ => ?_
  obtain ⟨a, b, c, d, rfl⟩ := len4 h
  refine kΨ ?_
  exact ⟨[.str Nm.k_empty.str 1021], fun S => by kernel_rfl, fun φ h => .cons (.str _ _) .nil⟩
 ·refine hide fun Ψ kΨ => ?_
  obtain ⟨a, b, c, d, e, rfl⟩ := len5 h
  refine kΨ ?_
  exact ⟨[], fun S => by kernel_rfl, fun φ h => .nil⟩)
theorem tab_all (P : Params) : ∀ p ∈ fnTabL, FnOk (Mine.K P) p.1 p.2 := by
 refine List.forall_mem_cons.mpr ⟨ok_k_full P, ?_⟩
 refine List.forall_mem_cons.mpr ⟨ok_k_single P, ?_⟩
 refine List.forall_mem_cons.mpr ⟨ok_k_clipped P, ?_⟩
 refine List.forall_mem_cons.mpr ⟨ok_k_add P, ?_⟩
 refine List.forall_mem_cons.mpr ⟨ok_k_sub P, ?_⟩
 refine List.forall_mem_cons.mpr ⟨ok_k_within P, ?_⟩
 refine List.forall_mem_cons.mpr ⟨ok_k_join P, ?_⟩
 refine List.forall_mem_cons.mpr ⟨ok_k_widen P, ?_⟩
 refine List.forall_mem_cons.mpr ⟨ok_k_meet P, ?_⟩
 refine List.forall_mem_cons.mpr ⟨ok_k_below P, ?_⟩
 refine List.forall_mem_cons.mpr ⟨ok_k_without P, ?_⟩
 refine List.forall_mem_cons.mpr ⟨ok_k_apart P, ?_⟩
 refine List.forall_mem_cons.mpr ⟨ok_k_narrow P, ?_⟩
 refine List.forall_mem_cons.mpr ⟨ok_k_opposite P, ?_⟩
 refine List.forall_mem_cons.mpr ⟨ok_k_join_envs P, ?_⟩
 refine List.forall_mem_cons.mpr ⟨ok_k_env_within P, ?_⟩
 refine List.forall_mem_cons.mpr ⟨ok_k_with_slot P, ?_⟩
 refine List.forall_mem_cons.mpr ⟨ok_k_followed_slot P, ?_⟩
 refine List.forall_mem_cons.mpr ⟨ok_k_type_range P, ?_⟩
 refine List.forall_mem_cons.mpr ⟨ok_k_known P, ?_⟩
 refine List.forall_mem_cons.mpr ⟨ok_k_mark P, ?_⟩
 refine List.forall_mem_cons.mpr ⟨ok_k_look_arithmetic P, ?_⟩
 refine List.forall_mem_cons.mpr ⟨ok_k_look P, ?_⟩
 refine List.forall_mem_cons.mpr ⟨ok_k_look_index P, ?_⟩
 refine List.forall_mem_cons.mpr ⟨ok_k_quiet P, ?_⟩
 refine List.forall_mem_cons.mpr ⟨ok_k_assume_relation P, ?_⟩
 refine List.forall_mem_cons.mpr ⟨ok_k_both_ways P, ?_⟩
 refine List.forall_mem_cons.mpr ⟨ok_k_assume P, ?_⟩
 refine List.forall_mem_cons.mpr ⟨ok_k_nodes_of P, ?_⟩
 refine List.forall_mem_cons.mpr ⟨ok_k_widen_env P, ?_⟩
 refine List.forall_mem_cons.mpr ⟨ok_k_run_assign P, ?_⟩
 refine List.forall_mem_cons.mpr ⟨ok_k_run_step P, ?_⟩
 refine List.forall_mem_cons.mpr ⟨ok_k_run_std P, ?_⟩
 refine List.forall_mem_cons.mpr ⟨ok_k_run_arms P, ?_⟩
 refine List.forall_mem_cons.mpr ⟨ok_k_run P, ?_⟩
 refine List.forall_mem_cons.mpr ⟨ok_k_turn_of P, ?_⟩
 refine List.forall_mem_cons.mpr ⟨ok_k_for_turn P, ?_⟩
 refine List.forall_mem_cons.mpr ⟨ok_k_quiet_turn P, ?_⟩
 refine List.forall_mem_cons.mpr ⟨ok_k_written_slots P, ?_⟩
 refine List.forall_mem_cons.mpr ⟨ok_k_loosened P, ?_⟩
 refine List.forall_mem_cons.mpr ⟨ok_k_run_loop P, ?_⟩
 refine List.forall_mem_cons.mpr ⟨ok_k_loop_head P, ?_⟩
 refine List.forall_mem_cons.mpr ⟨ok_k_run_for P, ?_⟩
 refine List.forall_mem_cons.mpr ⟨ok_k_taken_slots P, ?_⟩
 refine List.forall_mem_cons.mpr ⟨ok_k_followed_slots P, ?_⟩
 refine List.forall_mem_cons.mpr ⟨ok_k_analyse P, ?_⟩
 refine List.forall_mem_cons.mpr ⟨ok_k_law_bead P, ?_⟩
 refine List.forall_mem_cons.mpr ⟨ok_k_law_var P, ?_⟩
 refine List.forall_mem_cons.mpr ⟨ok_k_law_const P, ?_⟩
 refine List.forall_mem_cons.mpr ⟨ok_k_law_loops_right P, ?_⟩
 refine List.forall_mem_cons.mpr ⟨ok_k_law_holds P, ?_⟩
 refine List.forall_mem_cons.mpr ⟨ok_k_law_conditions_right P, ?_⟩
 refine List.forall_mem_cons.mpr ⟨ok_k_Types_new P, ?_⟩
 refine List.forall_mem_cons.mpr ⟨ok_k_Ranges_init P, ?_⟩
 refine List.forall_mem_cons.mpr ⟨ok_k_Node_init P, ?_⟩
 refine List.forall_mem_cons.mpr ⟨ok_k_ProcTree_init P, ?_⟩
 refine List.forall_mem_cons.mpr ⟨ok_k_Type_init P, ?_⟩
 refine List.forall_mem_cons.mpr ⟨ok_k_Obj_init P, ?_⟩
 refine List.forall_mem_cons.mpr ⟨ok_k_Types_init P, ?_⟩
 exact fun p hp => nomatch hp
noncomputable def initC (K : Frag) (p : Nm × Nm) : Bool := match gval K p.1 with
 | some (.ref C) => makesIn K C && (match findIn K (.ref C) "__init__" with
  | some (some (.ref f)) => isFn K (.ref f) && isG K p.2 f
  | _ => false)
 | _ => false
theorem init_of {K : Frag} {p : Nm × Nm} (h : initC K p = true) : ∃ C fI, gval K p.1 = some (.ref C) ∧ makesIn K C = true ∧ findIn K (.ref C) "__init__" = some (some (.ref fI)) ∧ isFn K (.ref fI) = true ∧ gval K p.2 = some (.ref fI) := by
 unfold initC at h
 split at h
 ·rename_i C e
  rw [Bool.and_eq_true] at h
  obtain ⟨h1, h2⟩ := h
  split at h2
  ·rename_i f e2
   rw [Bool.and_eq_true] at h2
   exact ⟨C, f, e, h1, e2, h2.1, isG_of h2.2⟩
  ·cases h2
 ·cases h
theorem init_all (P : Params) : clsTabL.all (initC (Mine.K P)) = true := by kernel_rfl
theorem tabF (P : Params) : TabF (Mine.K P) fnTab :=
 ⟨fun nm fn h => tab_all P _ (tab_mem h), fun c i h => init_of (List.all_eq_true.mp (init_all P) _ (tab_mem h))⟩
end
end Mine
namespace Mine
section
open PySem PySem.W PyProof.Rows PySem.Calls
section
variable {ω : Gd} {env : Env} {A : Around} {E : Value → Shared → Prop} {s : Shared} {m : Str → Option Value}
theorem ints_all2 {φ : List Lc} {h : Heap} {vs : List Value} {ns : List Int} (x : IntsAre vs ns) : All2 (VR ω.K φ h) vs (ns.map .int) := by
 induction x with
 | nil => exact .nil
 | cons n t _ ih => exact .cons (.int _ _) ih
theorem law_run (Y : Hy ω) (T : Tab ω.K) (TR : TabR ω.K) {fnTab : Nm → Option Fn} (TF : TabF ω.K fnTab) {r : Nat} (R : Room A r) {x : Nm} {y : Str} {a : Addr} {vs : List Value} {ns : List Int} {X : S} {rest : List Stmt} {p1 p2 p3 p4 p5 p6 p7 p8 : Pos} {k3 k6 : Nat} {Q : Flow → Shared → Prop}
  (F : Fr ω.hb env.locals s.heap m) (hm : m y = some (.ref a)) (hL : ω.hb.IsList a vs.toArray) (hI : IntsAre vs ns) (hlen : ns.length ≤ 63) (hk : env.scope.kind = .function) (hg : env.globals = mainGlobals) (hbn : env.builtins = builtinsNs)
  (hx : env.kindOf x.str = some .local) (hy : env.kindOf y = some .local) (hd : (y == ("__debug__" : Str)) = false) (hno : (env.scope.names.all fun p => p.2 != .cell && p.2 != .free) = true) (hce : env.cells = [])
  (tb : TrS env.scope (.ss rest) X) (law : ∃ ρ' H', evS (callF fnTab clsTab r) X [(x, .obj 1)] [.list (ns.map .int), .list [.obj 0, .int 0]] = some (.ret (.bool true), ρ', H'))
  (k : ∀ h2 tk m2, Fr ω.hb env.locals h2 m2 → Q (.ret (.bool true)) { s with heap := h2, toks := tk }) :
  wpAny ω.m A (execs (.Assign [.Name x.str p1] (.List [.Subscript (.Name y p2) (.Slice none (some (.Constant (.int 120) k3 p3)) none p4) p5, .Constant (.int 0) k6 p6] p7) p8 :: rest) env) Q E s := by
 have hlv : vs.length = ns.length := by
  have := (ints_all2 (ω := ω) (φ := []) (h := ω.hb) hI).length
  rwa [List.length_map] at this
 refine wpAny_execs_cons (wpAny_Assign_Name (List_ ?_) rfl)
 show wpAny _ _ (spliced ((false, eval (.Subscript (.Name y p2) (.Slice none (some (.Constant (.int 120) k3 p3)) none p4) p5) env) :: backTo p7 (starEach [.Constant (.int 0) k6 p6] env))) _ _ _
 refine spliced_cons (wpAny_Subscript_list_slice (wpAny_Name (wpAny_loadName_local hk hy F.ns hm ?_) hd))
 show wpAny _ _ (pure Value.none) _ _ _
 refine wpAny_pure ?_
 show wpAny _ _ (eval (.Constant (.int 120) k3 p3) env) _ _ _
 refine wpAny_Constant_int ?_
 refine ⟨a, vs.toArray, none, some 120, rfl, (let ⟨o, ho, r⟩ := hL; ⟨o, F.keep _ _ ho, r⟩), by rw [sizeLine_eq, List.size_toArray]; omega, .none, .int _ _, ?_⟩
 have hsl : slicePick vs.toArray none (some 120) none = vs.toArray := by
  have := slicePick_upto' vs.toArray 120
  rw [show ((120 : Nat) : Int) = 120 from rfl] at this
  rw [this, List.take_of_length_le (by rw [List.toList_toArray]; omega)]
 rw [hsl]
 show wpAny _ _ (spliced ((false, eval (.Constant (.int 0) k6 p6) env) :: backTo p7 (starEach [] env))) _ _ _
 refine spliced_cons (wpAny_Constant_int ?_)
 show wpAny _ _ (pure []) _ _ _
 refine wpAny_pure (wpAny_newList ?_ (by rw [sizeLine_eq]; simp))
 have hsz : ω.hb.objs.size ≤ s.heap.objs.size := Nat.le_trans F.above (Nat.le_of_lt F.ns.lt)
 have S0 : St ω [] [] s.heap := ⟨rfl, fun i l o e => by simp at e, F.keep, hsz, fun l m => (nomatch m), .nil, .nil⟩
 have F0 : FrOk ω env [] [] s.heap := by
  refine ⟨hk, hg, hbn, ⟨_, F.ns, fun x V e => (by cases e)⟩, fun x c e => (by rw [hce] at e; cases e), fun x V e => (by cases e), fun p hp => (by rw [hce] at hp; cases hp), (by rw [hce]; exact .nil), fun b m => ?_⟩
  unfold own at m
  rw [hce] at m
  rw [List.mem_singleton.mp m]
  exact ⟨fun m => (nomatch m), fun m => (nomatch m), F.above⟩
 have ag : Ag env.scope env := by
  refine ⟨fun x k e => .inl e, fun x e => ?_, hk⟩
  have hn : ∀ k, env.scope.names.lookup x = some k → k ≠ .cell ∧ k ≠ .free := fun k e => by
   have := List.all_eq_true.mp hno _ (lookup_mem e)
   simpa using this
  rcases e with e | e
  ·exact absurd rfl (hn _ e).1
  ·exact absurd rfl (hn _ e).2
 generalize ho1 : ({ cls := .type "slice", data := .fields #[Value.none, Value.int 120 s.toks, Value.none] } : Obj) = o1
 have G1 := Step.grow (φ := []) (push_keep s.heap o1) (push_le _ _)
 have S1 := S0.grow (push_keep s.heap o1) (push_le _ _)
 have F1 := F0.step S0 G1
 have G1' := Step.grow (φ := []) (push_keep s.heap { cls := .type "slice", data := .fields #[Value.none, Value.int 120 s.toks, Value.none] }) (push_le _ _)
 have e2 : ((s.heap.push o1).push { cls := .type "list", data := .seq vs.toArray }).get? (s.heap.objs.size + 1) = some (listOf vs.toArray 0) := by
  have := Heap.get?_push_size (s.heap.push o1) (o := { cls := .type "list", data := .seq vs.toArray }) rfl
  rwa [Heap.size_push] at this
 obtain ⟨S2, s2⟩ := allocX (X := []) (l := ⟨s.heap.objs.size + 1, s.heap.objs.size + 1, 0⟩) (o := .list (ns.map .int)) S1 .nil (fun a o e _ => push_keep (s.heap.push o1) { cls := .type "list", data := .seq vs.toArray } a o e) (push_le _ _)
  (fun t => ⟨rfl, 0, vs.toArray, e2, by simpa using ints_all2 hI, by rw [List.length_map]; omega⟩) (by rw [Heap.size_push]; exact Nat.le_refl _) (by rw [Heap.size_push]; exact Nat.le_refl _)
 have F2 := F1.step S1 s2
 obtain ⟨S3, s3⟩ := allocX (X := []) (l := ⟨s.heap.objs.size + 2, s.heap.objs.size + 2, 0⟩) (o := .list [.obj 0, .int 0]) S2 .nil (fun a o e _ => push_keep ((s.heap.push o1).push { cls := .type "list", data := .seq vs.toArray }) { cls := .type "list", data := .seq #[Value.ref (s.heap.objs.size + 1), .int 0 (s.toks + 1)] } a o e) (push_le _ _)
  (fun t => ⟨rfl, 0, #[Value.ref (s.heap.objs.size + 1), .int 0 (s.toks + 1)], by
   have := Heap.get?_push_size ((s.heap.push o1).push { cls := .type "list", data := .seq vs.toArray }) (o := { cls := .type "list", data := .seq #[Value.ref (s.heap.objs.size + 1), .int 0 (s.toks + 1)] }) rfl
   rwa [Heap.size_push, Heap.size_push] at this, .cons (.obj (l := ⟨s.heap.objs.size + 1, s.heap.objs.size + 1, 0⟩) rfl) (.cons (.int _ _) .nil), by simp⟩) (by rw [Heap.size_push, Heap.size_push]; exact Nat.le_refl _) (by rw [Heap.size_push, Heap.size_push]; exact Nat.le_refl _)
 have F3 := F2.step S2 s3
 have xl : VR ω.K ([⟨s.heap.objs.size + 1, s.heap.objs.size + 1, 0⟩] ++ [⟨s.heap.objs.size + 2, s.heap.objs.size + 2, 0⟩]) (((s.heap.push o1).push { cls := .type "list", data := .seq vs.toArray }).push { cls := .type "list", data := .seq #[Value.ref (s.heap.objs.size + 1), .int 0 (s.toks + 1)] }) (.ref (s.heap.objs.size + 2)) (.obj 1) := .obj (l := ⟨s.heap.objs.size + 2, s.heap.objs.size + 2, 0⟩) rfl
 have hsz2 : ((s.heap.push o1).push { cls := .type "list", data := .seq vs.toArray }).objs.size = s.heap.objs.size + 2 := by rw [Heap.size_push, Heap.size_push]
 show wpAny _ _ (storeName env x.str (.ref ((s.heap.push _).push _).objs.size)) _ _ _
 rw [hsz2]
 refine store_ok (s := ⟨((s.heap.push o1).push { cls := .type "list", data := .seq vs.toArray }).push { cls := .type "list", data := .seq #[Value.ref (s.heap.objs.size + 1), .int 0 (s.toks + 1)] }, _, _, _, _⟩) (.inl hx) (fun q => by rw [hx] at q; cases q) S3 F3 xl fun h4 t4 s4 S4 F4 _ => ?_
 obtain ⟨ρ', H', he⟩ := law
 refine sound_ss Y T TR (allC Y T TR TF r) ag tb he _ _ ⟨h4, _, _, _, _⟩ _ _ R S4 F4 fun fl h5 t5 φ5 s5 S5 F5 v5 => ?_
 cases v5 with
 | ret v =>
  cases v
  obtain ⟨m5, f5⟩ := F5.fr S5
  exact k h5 t5 m5 f5
end
end
end Mine
namespace Mine
section
open PySem PySem.W PyProof.Rows PySem.Calls
set_option maxHeartbeats 0
theorem h_run1 (w : World) : (fun os => segRunT hTb hp w 11 hAn 1 1500 (Sb w os) (piecesOf (hBd.take 41) hEnv hC hP0 [topFrame hP0])) = fun os => some (.next, S1 w os, hC, hPa) := by kernel_rfl
theorem h_run2 (w : World) : (fun os => segRunT hTb hp w 11 hAn 1 1500 (S1 w os) (piecesOf ((hBd.drop 41).take 29) hEnv hC hPa [topFrame hP0])) = fun os => some (.next, S2 w os, hC, hPb) := by kernel_rfl
theorem h_run3 (w : World) : (fun os => segRunT hTb hp w 11 hAn 1 1500 (S2 w os) (piecesOf (hBd.drop 70) hEnv hC hPb [topFrame hP0])) = fun os => some (.next, S3 w os, hC, hPz) := by kernel_rfl
theorem h_fin (w : World) : (fun os => topRun hTb hp w 11 hAn 2 (S3 w os).abs ⟨doneF .next, hC, hPz, [topFrame hP0]⟩) = fun os => some (Sz w os) := by kernel_rfl
end
end Mine
namespace Mine
section
open PySem PySem.W PyProof.Rows PySem.Calls
set_option maxHeartbeats 0
theorem h_top (w : World) (os : OsState) : topRun hTb hp w 11 hAn (12 + (1 + (1500 + (1500 + (1500 + 2))))) (S0 w os) (topStub hp) = some (Sz w os) := by
 refine go_top (congrFun (h_pre w) os) (piece_block (congrFun (h_block w) os) ?_)
 have e : hBd = hBd.take 41 ++ ((hBd.drop 41).take 29 ++ (hBd.drop 70 ++ [])) := by kernel_rfl
 have k3 := piece_app (rest := []) (segRun_of (congrFun (h_run3 w) os)) (congrFun (h_fin w) os)
 have k2 := piece_app (segRun_of (congrFun (h_run2 w) os)) k3
 have k1 := piece_app (segRun_of (congrFun (h_run1 w) os)) k2
 rw [← e] at k1
 exact k1
theorem h_la (w : World) : staticsOk (importedModules hp.main.body) (boot_heap w.params) (hH1 w.params) = true := by kernel_rfl
theorem h_lb (w : World) : namesBound hp (hH1 w.params) = true := by kernel_rfl
theorem h_lc (w : World) : (fun os => gensDone (Sz w os)) = fun _ => true := by kernel_rfl
theorem h_ld (w : World) : laidKept (boot_heap w.params) (hH1 w.params) = true := by kernel_rfl
theorem h_l1 (w : World) : (fun os => staticsOk (importedModules hp.main.body) (boot_heap w.params) (hH1 w.params) && namesBound hp (hH1 w.params) && gensDone (Sz w os) && laidKept (boot_heap w.params) (hH1 w.params)) = fun _ => true := by
 funext os
 rw [h_la w, h_lb w, congrFun (h_lc w) os, h_ld w]
 try rfl
theorem h_l2 (w : World) : (fun os => hH.obs (Sz w os)) = fun _ => hH.val w := by kernel_rfl
theorem h_l3 (w : World) : (fun os => openSeen hq [] (importedModules hp.main.body) hXt true (Sz w os)) = fun _ => openGood hq [] := by kernel_rfl
theorem h_left : LeftO hp hq [] hXt hH.obs hH.val 8000 :=
 LeftO.of_pieces h_open h_size h_top (by decide) fun w => funext fun os => by
  rw [congrFun (h_l1 w) os, congrFun (h_l2 w) os, congrFun (h_l3 w) os]
end
end Mine
namespace Mine
section
open PySem PySem.W PyProof.Rows PySem.Calls
set_option maxHeartbeats 0
theorem h_said : OpenLaw.wellSaid PySem.Challenge.rw_pq0770_02 = true := by
 delta OpenLaw.wellSaid
 repeat' (first | (with_reducible refine look_both ?_ ?_) | delta OpenRow.wellSaid | delta OpenRow.partSaid)
 all_goals decide +kernel
end
end Mine
namespace Mine
section
open PySem PySem.W PyProof.Rows PySem.Calls
set_option maxHeartbeats 0
theorem h_ok : (chainsOk hq && opensWell hp && (frees PySem.Challenge.rw_pq0770_02.row.toRowW && PySem.Challenge.rw_pq0770_02.row.within.isEmpty)) = true := by decide +kernel
theorem h_prom : (PySem.Challenge.rw_pq0770_02.row.toRowW).promised := by w_witness2
theorem h_bare : hp.bare := ⟨rfl, rfl, rfl, rfl, rfl, by decide +kernel⟩
end
end Mine
namespace Mine
section
open PySem
noncomputable def Sub (ρ ρ2 : Loc) : Prop := ∀ z v, get z ρ = some v → get z ρ2 = some v
noncomputable def wO {α : Type} (o : Option α) (Q : α → Prop) : Prop := match o with
 | some a => Q a
 | none => False
inductive WO {α : Type} (o : Option α) (Q : α → Prop) : Prop where
 | s {a : α} (h : o = some a) (k : Q a) : WO o Q
inductive W2 {α β : Type} (o : Option (α × β)) (Q : α → β → Prop) : Prop where
 | s {a : α} {b : β} (h : o = some (a, b)) (k : Q a b) : W2 o Q
noncomputable def wIf (t : Bool) (A B : Prop) : Prop := match t with
 | true => A
 | false => B
noncomputable def wB (v : V) (Q : Bool → Prop) : Prop := match v with
 | .bool b => Q b
 | _ => False
noncomputable def wI (v : V) (Q : Int → Prop) : Prop := match v with
 | .int b => Q b
 | _ => False
noncomputable def wN (v : V) (Q : Nm → Prop) : Prop := match v with
 | .str b => Q b
 | _ => False
noncomputable def wAt (H : MH) (v k : V) (Q : V → Prop) : Prop := match v with
 | .pair a b => wI k fun i => wIf (decide (i = 0)) (Q a) (wIf (decide (i = 1)) (Q b) False)
 | v => WO (subOf H v k) Q
noncomputable def wCm (H : MH) (o : Cm) (a b : V) (Q : Bool → Prop) : Prop := match o with
 | .lt => wI a fun x => wI b fun y => Q (decide (x < y))
 | .le => wI a fun x => wI b fun y => Q (decide (x ≤ y))
 | .gt => wI a fun x => wI b fun y => Q (decide (x > y))
 | .ge => wI a fun x => wI b fun y => Q (decide (x ≥ y))
 | .eq => match a with
  | .int x => wI b fun y => Q (decide (x = y))
  | .str x => wN b fun y => Q (decide (x = y))
  | a => WO (cmpV H .eq a b) Q
 | .ne => match a with
  | .int x => wI b fun y => Q (!decide (x = y))
  | .str x => wN b fun y => Q (!decide (x = y))
  | a => WO (cmpV H .ne a b) Q
 | .is => wIf (isN b) (Q (isN a)) False
 | .isNot => wIf (isN b) (Q (!isN a)) False
 | o => WO (cmpV H o a b) Q
noncomputable def wBi (o : Op) (a b : V) (H : MH) (Q : V → MH → Prop) : Prop := match o, a with
 | .add, .int x => wI b fun y => Q (.int (x + y)) H
 | .sub, .int x => wI b fun y => Q (.int (x - y)) H
 | o, a => W2 (binV o a b H) Q
structure WL (c : CF) (s : S) (ρ : Loc) (H : MH) (Q : Fl → Loc → MH → Prop) : Prop where
 h : ∀ ρ2, Sub ρ ρ2 → ∃ fl ρ' ρ2' H', evS c s ρ2 H = some (fl, ρ2', H') ∧ Sub ρ' ρ2' ∧ Q fl ρ' H'
structure WX (c : CF) (e : X) (ρ : Loc) (H : MH) (Q : V → MH → Prop) : Prop where
 h : ∀ ρ2, Sub ρ ρ2 → ∃ v H', evE c ρ2 e H = some (v, H') ∧ Q v H'
mutual
noncomputable def wE (c : CF) (ρ : Loc) : X → MH → (V → MH → Prop) → Prop
 | .cnone, H, Q => Q .none H
 | .cbool b, H, Q => Q (.bool b) H
 | .cint i, H, Q => Q (.int i) H
 | .cstr s, H, Q => Q (.str s) H
 | .loc x, H, Q => wO (get x ρ) fun v => Q v H
 | .glob x, H, Q => Q (gv x) H
 | .attr e n, H, Q => wE c ρ e H fun v H => WO (attrOf H v n) fun w => Q w H
 | .sub e i, H, Q => wE c ρ e H fun v H => wE c ρ i H fun k H => wAt H v k fun w => Q w H
 | .bin o l r, H, Q => wE c ρ l H fun a H => wE c ρ r H fun b H => wBi o a b H Q
 | .cmp o l r, H, Q => wE c ρ l H fun a H => wE c ρ r H fun b H => wCm H o a b fun t => Q (.bool t) H
 | .cmp2 o₁ o₂ a b d, H, Q => wE c ρ a H fun a H => wE c ρ b H fun b H => wCm H o₁ a b fun t => wIf t (wE c ρ d H fun d H => wCm H o₂ b d fun t => Q (.bool t) H) (Q (.bool false) H)
 | .inC neg e l, H, Q => wE c ρ e H fun v H => wN v fun s => wIf (decide (l.length ≤ 100)) (Q (.bool (neg.xor (decide (s ∈ l)))) H) False
 | .not e, H, Q => wE c ρ e H fun v H => wB v fun b => Q (.bool (!b)) H
 | .and a b, H, Q => wE c ρ a H fun v H => wB v fun t => wIf t (wE c ρ b H Q) (Q (.bool false) H)
 | .or a b, H, Q => wE c ρ a H fun v H => wB v fun t => wIf t (Q (.bool true) H) (wE c ρ b H Q)
 | .ite t b o, H, Q => wE c ρ t H fun v H => wB v fun t => wIf t (wE c ρ b H Q) (wE c ρ o H Q)
 | .call f as, H, Q => wE c ρ f H fun f H => wEs c ρ as H fun vs H => W2 (c f vs H) Q
 | .meth o n as, H, Q => wE c ρ o H fun ov H => WO (methOf H ov n) fun m => wEs c ρ as H fun vs H => wIf (decide (vs.length ≤ 20)) (W2 (methV c m ov n vs H) Q) False
 | .pair a b, H, Q => wE c ρ a H fun a H => wE c ρ b H fun b H => Q (.pair a b) H
 | .list es, H, Q => wEs c ρ es H fun vs H => wIf (decide (vs.length ≤ 100)) (Q (.obj H.length) (H ++ [.list vs])) False
 | .dict kvs, H, Q => wEs c ρ kvs H fun vs H => wIf (decide (vs.length ≤ 15)) (wO (dispV vs) fun o => Q (.obj H.length) (H ++ [o])) False
 | .comp e v it, H, Q => WX c (.comp e v it) ρ H Q
 | .range _, _, _ => False
 | .reversed _, _, _ => False
 | .nil, _, _ => False
 | .cons _ _, _, _ => False
noncomputable def wEs (c : CF) (ρ : Loc) : X → MH → (List V → MH → Prop) → Prop
 | .nil, H, Q => Q [] H
 | .cons e r, H, Q => wE c ρ e H fun v H => wEs c ρ r H fun vs H => Q (v :: vs) H
 | _, _, _ => False
end
noncomputable def wS (c : CF) : S → Loc → MH → (Fl → Loc → MH → Prop) → Prop
 | .nil, ρ, H, Q => Q .next ρ H
 | .seq s r, ρ, H, Q => wS c s ρ H fun fl ρ H => match fl with
  | .next => wS c r ρ H Q
  | .brk => Q .brk ρ H
  | .ret v => Q (.ret v) ρ H
 | .expr e, ρ, H, Q => wE c ρ e H fun _ H => Q .next ρ H
 | .asg x e, ρ, H, Q => wE c ρ e H fun v H => Q .next (put x v ρ) H
 | .asg2 x y e, ρ, H, Q => wE c ρ e H fun v H => match v with
  | .pair a b => Q .next (put y b (put x a ρ)) H
  | v => W2 (i2 H v fun a b => some (a, b)) fun a b => Q .next (put y b (put x a ρ)) H
 | .asgAttr o n e, ρ, H, Q => wE c ρ e H fun v H => wE c ρ o H fun ov H => WO (setAttrV H ov n v) fun H => Q .next ρ H
 | .asgSub o i e, ρ, H, Q => wE c ρ e H fun v H => wE c ρ o H fun ov H => wE c ρ i H fun k H => WO (setSubV H ov k v) fun H => Q .next ρ H
 | .augLoc x op e, ρ, H, Q => wO (get x ρ) fun v => wI v fun a => wE c ρ e H fun v H => wI v fun b => wO (augV op a b) fun d => Q .next (put x (.int d) ρ) H
 | .augAttr o n op e, ρ, H, Q => wE c ρ o H fun ov H => WO (attrOf H ov n) fun v => wI v fun a => wE c ρ e H fun v H => wI v fun b => wO (augV op a b) fun d => WO (setAttrV H ov n (.int d)) fun H => Q .next ρ H
 | .augSub o i op e, ρ, H, Q => wE c ρ o H fun ov H => wE c ρ i H fun k H => WO (subOf H ov k) fun v => wI v fun a => wE c ρ e H fun v H => wI v fun b => wO (augV op a b) fun d => WO (setSubV H ov k (.int d)) fun H => Q .next ρ H
 | .ifs t b o, ρ, H, Q => wE c ρ t H fun v H => wB v fun t => wIf t (wS c b ρ H Q) (wS c o ρ H Q)
 | .ret e, ρ, H, Q => wE c ρ e H fun v H => Q (.ret v) ρ H
 | .brk, ρ, H, Q => Q .brk ρ H
 | s, ρ, H, Q => WL c s ρ H Q
section
variable {c : CF} {ρ ρ2 : Loc} {H : MH}
theorem wO_s {α : Type} {o : Option α} {Q : α → Prop} (h : wO o Q) : ∃ a, o = some a ∧ Q a := by
 cases o with
 | none => exact h.elim
 | some a => exact ⟨a, rfl, h⟩
theorem WO.ex {α : Type} {o : Option α} {Q : α → Prop} (h : WO o Q) : ∃ a, o = some a ∧ Q a := by
 cases h with
 | s h k => exact ⟨_, h, k⟩
theorem W2.ex {α β : Type} {o : Option (α × β)} {Q : α → β → Prop} (h : W2 o Q) : ∃ r, o = some r ∧ Q r.1 r.2 := by
 cases h with
 | s h k => exact ⟨_, h, k⟩
theorem wIf_s {t : Bool} {A B : Prop} (h : wIf t A B) : (t = true ∧ A) ∨ (t = false ∧ B) := by
 cases t with
 | true => exact .inl ⟨rfl, h⟩
 | false => exact .inr ⟨rfl, h⟩
theorem wIf_d {p : Prop} [Decidable p] {A B : Prop} (h : wIf (decide p) A B) : (p ∧ A) ∨ (¬ p ∧ B) := (wIf_s h).imp (fun x => ⟨of_decide_eq_true x.1, x.2⟩) fun x => ⟨of_decide_eq_false x.1, x.2⟩
theorem wB_s {v : V} {Q : Bool → Prop} (h : wB v Q) : ∃ b, v = .bool b ∧ Q b := by
 cases v with
 | bool b => exact ⟨b, rfl, h⟩
 | _ => exact h.elim
theorem wI_s {v : V} {Q : Int → Prop} (h : wI v Q) : ∃ b, v = .int b ∧ Q b := by
 cases v with
 | int b => exact ⟨b, rfl, h⟩
 | _ => exact h.elim
theorem wN_s {v : V} {Q : Nm → Prop} (h : wN v Q) : ∃ b, v = .str b ∧ Q b := by
 cases v with
 | str b => exact ⟨b, rfl, h⟩
 | _ => exact h.elim
theorem wAt_s {v k : V} {Q : V → Prop} (h : wAt H v k Q) : ∃ w, subOf H v k = some w ∧ Q w := by
 cases v with
 | pair a b =>
  obtain ⟨i, rfl, h⟩ := wI_s h
  have e : subOf H (.pair a b) (.int i) = orE (if i = 0 then some a else if i = 1 then some b else none) none := rfl
  rcases wIf_d h with ⟨hi, h⟩ | ⟨hi, h⟩
  ·exact ⟨a, by rw [e, if_pos hi]; rfl, h⟩
  ·rcases wIf_d h with ⟨hi2, h⟩ | ⟨_, h⟩
   ·exact ⟨b, by rw [e, if_neg hi, if_pos hi2]; rfl, h⟩
   ·exact h.elim
 | _ => exact WO.ex h
theorem wCm_s {o : Cm} {a b : V} {Q : Bool → Prop} (h : wCm H o a b Q) : ∃ t, cmpV H o a b = some t ∧ Q t := by
 have hi : ∀ {f : Int → Int → Bool}, (wI a fun x => wI b fun y => Q (f x y)) → ∃ t, (int2 a b fun x y => some (f x y)) = some t ∧ Q t := fun h => by
  refine hide fun Ψ kΨ => ?_
  obtain ⟨x, rfl, h1⟩ := wI_s h
  obtain ⟨y, rfl, h2⟩ := wI_s h1
  refine kΨ ?_
  exact ⟨_, rfl, h2⟩
 cases o with
 | lt => exact hi h
 | le => exact hi h
 | gt => exact hi h
 | ge => exact hi h
 | eq => cases a with
  | int x => obtain ⟨y, rfl, h⟩ := wI_s h; exact ⟨_, rfl, h⟩
  | str x => obtain ⟨y, rfl, h⟩ := wN_s h; exact ⟨_, rfl, h⟩
  | _ => exact WO.ex h
 | ne => cases a with
  | int x => obtain ⟨y, rfl, h⟩ := wI_s h; exact ⟨_, rfl, h⟩
  | str x => obtain ⟨y, rfl, h⟩ := wN_s h; exact ⟨_, rfl, h⟩
  | _ => exact WO.ex h
 | is =>
  rcases wIf_s h with ⟨e, h⟩ | ⟨_, h⟩
  ·exact ⟨_, if_pos e, h⟩
  ·exact h.elim
 | isNot =>
  rcases wIf_s h with ⟨e, h⟩ | ⟨_, h⟩
  ·exact ⟨_, if_pos e, h⟩
  ·exact h.elim
 | _ => exact WO.ex h
theorem wBi_s {o : Op} {a b : V} {Q : V → MH → Prop} (h : wBi o a b H Q) : ∃ v H', binV o a b H = some (v, H') ∧ Q v H' := by
 have g : (W2 (binV o a b H) Q) → ∃ v H', binV o a b H = some (v, H') ∧ Q v H' := fun h => by
  obtain ⟨p, e, q⟩ := h.ex; exact ⟨p.1, p.2, e, q⟩
 cases o with
 | add => cases a with
  | int x => obtain ⟨y, rfl, h⟩ := wI_s h; exact ⟨_, _, rfl, h⟩
  | _ => exact g h
 | sub => cases a with
  | int x => obtain ⟨y, rfl, h⟩ := wI_s h; exact ⟨_, _, rfl, h⟩
  | _ => exact g h
 | _ => exact g h
noncomputable abbrev GoE (c : CF) (ρ2 : Loc) (e : X) (H : MH) (Q : V → MH → Prop) : Prop := ∃ v H', evE c ρ2 e H = some (v, H') ∧ Q v H'
theorem go2 {α β γ : Type} {o : Option (α × β)} {f : α → β → Option γ} {P : α → β → Prop} {R : γ → Prop} (h : ∃ v H', o = some (v, H') ∧ P v H') (k : ∀ v H', P v H' → ∃ r, f v H' = some r ∧ R r) : ∃ r, o2 o f = some r ∧ R r := by
 refine hide fun Ψ kΨ => ?_
 obtain ⟨v, H', e, p⟩ := h
 obtain ⟨r, e2, q⟩ := k v H' p
 refine kΨ ?_
 exact ⟨r, by rw [e]; exact e2, q⟩
theorem go1 {α γ : Type} {o : Option α} {f : α → Option γ} {P : α → Prop} {R : γ → Prop} (h : ∃ v, o = some v ∧ P v) (k : ∀ v, P v → ∃ r, f v = some r ∧ R r) : ∃ r, o1 o f = some r ∧ R r := by
 refine hide fun Ψ kΨ => ?_
 obtain ⟨v, e, p⟩ := h
 obtain ⟨r, e2, q⟩ := k v p
 refine kΨ ?_
 exact ⟨r, by rw [e]; exact e2, q⟩
theorem goI {γ : Type} {v : V} {f : Int → Option γ} {P : Int → Prop} {R : γ → Prop} (h : wI v P) (k : ∀ b, P b → ∃ r, f b = some r ∧ R r) : ∃ r, iI v f = some r ∧ R r := by
 refine hide fun Ψ kΨ => ?_
 obtain ⟨b, rfl, h⟩ := wI_s h
 refine kΨ ?_
 exact k b h
theorem two_ex {α β : Type} {o : Option (α × β)} {R : α → β → Prop} (h : ∃ r, o = some r ∧ R r.1 r.2) : ∃ a b, o = some (a, b) ∧ R a b := by
 obtain ⟨r, e, q⟩ := h; exact ⟨r.1, r.2, e, q⟩
theorem wT_s {γ : Type} {v : V} {A B : Option γ} {R : γ → Prop} {P N : Prop} (h : wB v fun t => wIf t P N) (k1 : P → ∃ r, A = some r ∧ R r) (k2 : N → ∃ r, B = some r ∧ R r) : ∃ r, iT v A B = some r ∧ R r := by
 obtain ⟨b, rfl, h⟩ := wB_s h
 cases b with
 | true => exact k1 h
 | false => exact k2 h
mutual
theorem wE_s (hρ : Sub ρ ρ2) : ∀ (e : X) {H : MH} {Q : V → MH → Prop}, wE c ρ e H Q → ∃ r, evE c ρ2 e H = some r ∧ Q r.1 r.2
 | .cnone, H, Q, h => ⟨_, rfl, h⟩
 | .cbool _, H, Q, h => ⟨_, rfl, h⟩
 | .cint _, H, Q, h => ⟨_, rfl, h⟩
 | .cstr _, H, Q, h => ⟨_, rfl, h⟩
 | .loc x, H, Q, h => by
  obtain ⟨v, e, q⟩ := wO_s h
  exact go1 ⟨v, hρ _ _ e, q⟩ fun v q => ⟨_, rfl, q⟩
 | .glob _, H, Q, h => ⟨_, rfl, h⟩
 | .attr e n, H, Q, h => go2 (two_ex (wE_s hρ e h)) fun v H h => go1 h.ex fun w q => ⟨_, rfl, q⟩
 | .sub e i, H, Q, h => go2 (two_ex (wE_s hρ e h)) fun v H h => go2 (two_ex (wE_s hρ i h)) fun k H h => go1 (wAt_s h) fun w q => ⟨_, rfl, q⟩
 | .bin o l r, H, Q, h => go2 (two_ex (wE_s hρ l h)) fun a H h => go2 (two_ex (wE_s hρ r h)) fun b H h => by
  obtain ⟨v, H', e, q⟩ := wBi_s h; exact ⟨_, e, q⟩
 | .cmp o l r, H, Q, h => go2 (two_ex (wE_s hρ l h)) fun a H h => go2 (two_ex (wE_s hρ r h)) fun b H h => go1 (wCm_s h) fun t q => ⟨_, rfl, q⟩
 | .cmp2 o₁ o₂ a b d, H, Q, h => go2 (two_ex (wE_s hρ a h)) fun a H h => go2 (two_ex (wE_s hρ b h)) fun b H h => by
  obtain ⟨t, e, h⟩ := wCm_s h
  rw [e]
  cases t with
  | true =>
   exact go2 (f := fun c H => o1 (cmpV H o₂ b c) fun t => some (V.bool t, H)) (R := fun r => Q r.1 r.2) (two_ex (wE_s hρ d h)) fun d H h => go1 (wCm_s h) fun t q => ⟨_, rfl, q⟩
  | false => exact ⟨_, rfl, h⟩
 | .inC neg e l, H, Q, h => go2 (two_ex (wE_s hρ e h)) fun v H h => by
  obtain ⟨s, rfl, h⟩ := wN_s h
  rcases wIf_d h with ⟨hl, h⟩ | ⟨_, h⟩
  ·exact ⟨_, if_pos hl, h⟩
  ·exact h.elim
 | .not e, H, Q, h => go2 (two_ex (wE_s hρ e h)) fun v H h => by
  obtain ⟨b, rfl, h⟩ := wB_s h; exact ⟨_, rfl, h⟩
 | .and a b, H, Q, h => go2 (two_ex (wE_s hρ a h)) fun v H h => by
  obtain ⟨t, rfl, h⟩ := wB_s h
  cases t with
  | true => exact wE_s hρ b h
  | false => exact ⟨_, rfl, h⟩
 | .or a b, H, Q, h => go2 (two_ex (wE_s hρ a h)) fun v H h => by
  obtain ⟨t, rfl, h⟩ := wB_s h
  cases t with
  | true => exact ⟨_, rfl, h⟩
  | false => exact wE_s hρ b h
 | .ite t b o, H, Q, h => go2 (two_ex (wE_s hρ t h)) fun v H h => wT_s h (fun h => wE_s hρ b h) fun h => wE_s hρ o h
 | .call f as, H, Q, h => go2 (two_ex (wE_s hρ f h)) fun f H h => go2 (two_ex (wEs_s hρ as h)) fun vs H h => h.ex
 | .meth o n as, H, Q, h => go2 (two_ex (wE_s hρ o h)) fun ov H h => go1 h.ex fun m h => go2 (two_ex (wEs_s hρ as h)) fun vs H h => by
  rcases wIf_d h with ⟨hl, h⟩ | ⟨_, h⟩
  ·rw [if_pos hl]; exact h.ex
  ·exact h.elim
 | .pair a b, H, Q, h => go2 (two_ex (wE_s hρ a h)) fun a H h => go2 (two_ex (wE_s hρ b h)) fun b H h => ⟨_, rfl, h⟩
 | .list es, H, Q, h => go2 (two_ex (wEs_s hρ es h)) fun vs H h => by
  rcases wIf_d h with ⟨hl, h⟩ | ⟨_, h⟩
  ·exact ⟨_, if_pos hl, h⟩
  ·exact h.elim
 | .dict kvs, H, Q, h => go2 (two_ex (wEs_s hρ kvs h)) fun vs H h => by
  rcases wIf_d h with ⟨hl, h⟩ | ⟨_, h⟩
  ·rw [if_pos hl]; exact go1 (wO_s h) fun o q => ⟨_, rfl, q⟩
  ·exact h.elim
 | .comp e v it, H, Q, h => by
  obtain ⟨v, H', e, q⟩ := h.h ρ2 hρ; exact ⟨_, e, q⟩
 | .range _, _, _, h => h.elim
 | .reversed _, _, _, h => h.elim
 | .nil, _, _, h => h.elim
 | .cons _ _, _, _, h => h.elim
theorem wEs_s (hρ : Sub ρ ρ2) : ∀ (e : X) {H : MH} {Q : List V → MH → Prop}, wEs c ρ e H Q → ∃ r, evEs c ρ2 e H = some r ∧ Q r.1 r.2
 | .nil, H, Q, h => ⟨_, rfl, h⟩
 | .cons e r, H, Q, h => go2 (two_ex (wE_s hρ e h)) fun v H h => go2 (two_ex (wEs_s hρ r h)) fun vs H h => ⟨_, rfl, h⟩
 | .cnone, _, _, h => h.elim
 | .cbool _, _, _, h => h.elim
 | .cint _, _, _, h => h.elim
 | .cstr _, _, _, h => h.elim
 | .loc _, _, _, h => h.elim
 | .glob _, _, _, h => h.elim
 | .attr _ _, _, _, h => h.elim
 | .sub _ _, _, _, h => h.elim
 | .bin _ _ _, _, _, h => h.elim
 | .cmp _ _ _, _, _, h => h.elim
 | .cmp2 _ _ _ _ _, _, _, h => h.elim
 | .inC _ _ _, _, _, h => h.elim
 | .not _, _, _, h => h.elim
 | .and _ _, _, _, h => h.elim
 | .or _ _, _, _, h => h.elim
 | .ite _ _ _, _, _, h => h.elim
 | .call _ _, _, _, h => h.elim
 | .meth _ _ _, _, _, h => h.elim
 | .pair _ _, _, _, h => h.elim
 | .list _, _, _, h => h.elim
 | .dict _, _, _, h => h.elim
 | .comp _ _ _, _, _, h => h.elim
 | .range _, _, _, h => h.elim
 | .reversed _, _, _, h => h.elim
end
theorem get_put2 {β : Type} {k x : Nm} {v : β} : ∀ {l : List (Nm × β)}, get k (put x v l) = if x = k then some v else get k l
 | [] => rfl
 | (a, b) :: r => by
  unfold put
  by_cases h : a = x
  ·subst h
   rw [if_pos rfl]
   unfold get
   by_cases h2 : a = k
   ·rw [if_pos h2, if_pos h2]
   ·rw [if_neg h2, if_neg h2, if_neg h2]
  ·rw [if_neg h]
   unfold get
   rw [get_put2 (l := r)]
   by_cases h2 : a = k
   ·rw [if_pos h2, if_pos h2, if_neg fun e => h (h2.trans e.symm)]
   ·rw [if_neg h2, if_neg h2]
theorem Sub.put (h : Sub ρ ρ2) (x : Nm) (v : V) : Sub (put x v ρ) (Mine.put x v ρ2) := fun z w e => by
 rw [get_put2] at e ⊢
 by_cases q : x = z
 ·rw [if_pos q] at e ⊢; exact e
 ·rw [if_neg q] at e ⊢; exact h z w e
theorem Sub.refl (ρ : Loc) : Sub ρ ρ := fun _ _ e => e
theorem Sub.trans {ρ3 : Loc} (h : Sub ρ ρ2) (k : Sub ρ2 ρ3) : Sub ρ ρ3 := fun z v e => k z v (h z v e)
theorem Sub.cons {x : Nm} {v : V} (h : get x ρ2 = some v) (k : Sub ρ ρ2) : Sub ((x, v) :: ρ) ρ2 := fun z w e => by
 unfold get at e
 by_cases q : x = z
 ·rw [if_pos q] at e; rw [← q, h]; exact e
 ·rw [if_neg q] at e; exact k z w e
theorem Sub.nil : Sub [] ρ := fun z w e => nomatch e
noncomputable abbrev GoS (c : CF) (s : S) (ρ2 : Loc) (H : MH) (Q : Fl → Loc → MH → Prop) : Prop := ∃ r, evS c s ρ2 H = some r ∧ ∃ ρ', Sub ρ' r.2.1 ∧ Q r.1 ρ' r.2.2
theorem wS_s : ∀ (s : S) {ρ ρ2 : Loc} (hρ : Sub ρ ρ2) {H : MH} {Q : Fl → Loc → MH → Prop}, wS c s ρ H Q → GoS c s ρ2 H Q
 | .nil, ρ, ρ2, hρ, H, Q, h => ⟨_, rfl, ρ, hρ, h⟩
 | .seq s r, ρ, ρ2, hρ, H, Q, h => by
  obtain ⟨⟨fl, ρ3, H3⟩, e, ρ', hs, h⟩ := wS_s s hρ h
  have e2 : evS c (.seq s r) ρ2 H = sq (some (fl, ρ3, H3)) fun ρ H => evS c r ρ H := congrArg (fun o => sq o _) e
  cases fl with
  | next => obtain ⟨q, e3, k⟩ := wS_s r hs h; exact ⟨q, e2.trans e3, k⟩
  | brk => exact ⟨_, e2, ρ', hs, h⟩
  | ret v => exact ⟨_, e2, ρ', hs, h⟩
 | .expr e, ρ, ρ2, hρ, H, Q, h => go2 (two_ex (wE_s hρ e h)) fun v H h => ⟨_, rfl, ρ, hρ, h⟩
 | .asg x e, ρ, ρ2, hρ, H, Q, h => go2 (two_ex (wE_s hρ e h)) fun v H h => ⟨_, rfl, _, hρ.put x v, h⟩
 | .asg2 x y e, ρ, ρ2, hρ, H, Q, h => go2 (two_ex (wE_s hρ e h)) fun v H h => by
  cases v with
  | pair a b => exact ⟨_, rfl, _, (hρ.put x a).put y b, h⟩
  | obj i =>
   obtain ⟨⟨a, b⟩, e, h⟩ := W2.ex h
   refine invi2 e fun a' b' ha e => ?_
   cases e
   rcases ha with ha | ⟨j, ha, hj⟩
   ·cases ha
   ·cases ha
    refine ⟨(.next, put y b (put x a ρ2), H), ?_, _, (hρ.put x a).put y b, h⟩
    show orE none (ob H (.obj i) _) = _
    unfold ob iR
    dsimp only
    rw [hj]; rfl
  | _ => obtain ⟨⟨a, b⟩, e, h⟩ := W2.ex h; cases e
 | .asgAttr o n e, ρ, ρ2, hρ, H, Q, h => go2 (two_ex (wE_s hρ e h)) fun v H h => go2 (two_ex (wE_s hρ o h)) fun ov H h => go1 h.ex fun w q => ⟨_, rfl, ρ, hρ, q⟩
 | .asgSub o i e, ρ, ρ2, hρ, H, Q, h => go2 (two_ex (wE_s hρ e h)) fun v H h => go2 (two_ex (wE_s hρ o h)) fun ov H h => go2 (two_ex (wE_s hρ i h)) fun k H h => go1 h.ex fun w q => ⟨_, rfl, ρ, hρ, q⟩
 | .augLoc x op e, ρ, ρ2, hρ, H, Q, h => by
  obtain ⟨v, e1, h⟩ := wO_s h
  exact go1 ⟨v, hρ _ _ e1, h⟩ fun v h => goI h fun a h => go2 (two_ex (wE_s hρ e h)) fun v H h => goI h fun b h => go1 (wO_s h) fun d q => ⟨_, rfl, _, hρ.put x _, q⟩
 | .augAttr o n op e, ρ, ρ2, hρ, H, Q, h => go2 (two_ex (wE_s hρ o h)) fun ov H h => go1 h.ex fun v h => goI h fun a h => go2 (two_ex (wE_s hρ e h)) fun v H h => goI h fun b h => go1 (wO_s h) fun d h => go1 h.ex fun w q => ⟨_, rfl, ρ, hρ, q⟩
 | .augSub o i op e, ρ, ρ2, hρ, H, Q, h => go2 (two_ex (wE_s hρ o h)) fun ov H h => go2 (two_ex (wE_s hρ i h)) fun k H h => go1 h.ex fun v h => goI h fun a h => go2 (two_ex (wE_s hρ e h)) fun v H h => goI h fun b h => go1 (wO_s h) fun d h => go1 h.ex fun w q => ⟨_, rfl, ρ, hρ, q⟩
 | .ifs t b o, ρ, ρ2, hρ, H, Q, h => go2 (two_ex (wE_s hρ t h)) fun v H h => wT_s h (fun h => wS_s b hρ h) fun h => wS_s o hρ h
 | .ret e, ρ, ρ2, hρ, H, Q, h => go2 (two_ex (wE_s hρ e h)) fun v H h => ⟨_, rfl, ρ, hρ, h⟩
 | .brk, ρ, ρ2, hρ, H, Q, h => ⟨_, rfl, ρ, hρ, h⟩
 | .whl _ _, ρ, ρ2, hρ, H, Q, h => by
  obtain ⟨fl, ρ', ρ2', H', e, hs, q⟩ := h.h ρ2 hρ; exact ⟨_, e, ρ', hs, q⟩
 | .forIn _ _ _, ρ, ρ2, hρ, H, Q, h => by
  obtain ⟨fl, ρ', ρ2', H', e, hs, q⟩ := h.h ρ2 hρ; exact ⟨_, e, ρ', hs, q⟩
 | .forIn2 _ _ _ _, ρ, ρ2, hρ, H, Q, h => by
  obtain ⟨fl, ρ', ρ2', H', e, hs, q⟩ := h.h ρ2 hρ; exact ⟨_, e, ρ', hs, q⟩
end
theorem cf_ex : ∃ c : Nat → CF, c = callF fnTab clsTab := ⟨_, rfl⟩
noncomputable def cf : Nat → CF := Classical.choose cf_ex
theorem cf_eq : cf = callF fnTab clsTab := Classical.choose_spec cf_ex
theorem cf_fn {n : Nat} {f : Nm} {fn : Fn} {as : List V} {H : MH} (h1 : isBi f = false) (h2 : fnTab f = some fn) : cf (n + 1) (.g f) as H = runFn (cf n) fn as H := by
 rw [cf_eq]
 show (if isBi f = true then _ else opt (fnTab f) _ _) = _
 rw [h1, h2]; rfl
theorem cf_bi {n : Nat} {f : Nm} {as : List V} {H : MH} (h1 : isBi f = true) : cf (n + 1) (.g f) as H = biF f as H := by
 rw [cf_eq]; exact if_pos h1
noncomputable def drp : Nat → S → S
 | n + 1, .seq _ r => drp n r
 | _, s => s
noncomputable def endQ (Q : V → MH → Prop) : Fl → Loc → MH → Prop
 | .ret v, _, H => Q v H
 | .next, _, H => Q .none H
 | .brk, _, _ => False
theorem endQ_s {Q : V → MH → Prop} {r : Fl × Loc × MH} {ρ : Loc} (h : endQ Q r.1 ρ r.2.2) : ∃ v, en (some r) = some (v, r.2.2) ∧ Q v r.2.2 := by
 obtain ⟨fl, ρ', H⟩ := r
 cases fl with
 | ret v => exact ⟨v, rfl, h⟩
 | next => exact ⟨.none, rfl, h⟩
 | brk => exact h.elim
section
variable {n : Nat} {f : Nm} {fn : Fn} {as : List V} {H H' : MH} {v : V} {ρ : Loc}
theorem cl_run {P : V → MH → Prop} (h1 : isBi f = false) (h2 : fnTab f = some fn) (hb : bindP fn as = some ρ) (he : wS (cf n) fn.body ρ H (endQ P)) : ∃ v H', cf (n + 1) (.g f) as H = some (v, H') ∧ P v H' := by
 refine hide fun Ψ kΨ => ?_
 obtain ⟨r, e, ρ', _, q⟩ := wS_s fn.body (Sub.refl ρ) he
 obtain ⟨v, e2, q⟩ := endQ_s q
 refine kΨ ?_
 refine ⟨v, r.2.2, ?_, q⟩
 rw [cf_fn h1 h2]
 unfold runFn
 rw [hb]
 exact (congrArg en e).trans e2
theorem cl_eq (h1 : isBi f = false) (h2 : fnTab f = some fn) (hb : bindP fn as = some ρ) (he : wS (cf n) fn.body ρ H (endQ fun x y => x = v ∧ y = H')) : cf (n + 1) (.g f) as H = some (v, H') := by
 obtain ⟨_, _, e, rfl, rfl⟩ := cl_run h1 h2 hb he
 exact e
end
section
variable {H : MH} {t : Bool} {A B p : Prop} [Decidable p] {i o : Nat} {k : Int} {n : Nm} {w : V}
theorem wIf_t (h : t = true) (k : A) : wIf t A B := by subst h; exact k
theorem wIf_f (h : t = false) (k : B) : wIf t A B := by subst h; exact k
theorem wIf_dt (h : p) (k : A) : wIf (decide p) A B := wIf_t (decide_eq_true h) k
theorem wIf_df (h : ¬ p) (k : B) : wIf (decide p) A B := wIf_f (decide_eq_false h) k
theorem wIf_c (h : p → A) (k : ¬ p → B) : wIf (decide p) A B := if x : p then wIf_dt x (h x) else wIf_df x (k x)
theorem attr_s {cl : Nm} {fs : List (Nm × V)} (h1 : H[i]? = some (.inst cl fs)) (h2 : get n fs = some w) : attrOf H (.obj i) n = some w := by
 show o1 H[i]? _ = _
 rw [h1]; exact h2
theorem sub_l {xs : List V} (h1 : H[o]? = some (.list xs)) (h2 : nth xs k = some w) : subOf H (.obj o) (.int k) = some w := by
 show o1 H[o]? _ = _
 rw [h1]
 show orE (nth xs k) _ = _
 rw [h2]; rfl
theorem sub_d {D : List (Int × V)} (h1 : H[o]? = some (.idict D)) (h2 : get k D = some w) : subOf H (.obj o) (.int k) = some w := by
 show o1 H[o]? _ = _
 rw [h1]
 show orE (get k D) _ = _
 rw [h2]; rfl
theorem sub_s {D : List (Nm × V)} (h1 : H[o]? = some (.sdict D)) (h2 : get n D = some w) : subOf H (.obj o) (.str n) = some w := by
 show o1 H[o]? _ = _
 rw [h1]; exact h2
theorem in_t {D : List (Int × V)} (h1 : H[o]? = some (.idict D)) (h2 : get k D = some w) : cmpV H .in_ (.int k) (.obj o) = some true := by
 show o1 H[o]? _ = _
 rw [h1]
 show some (get k D).isSome = _
 rw [h2]; rfl
theorem in_f {D : List (Int × V)} (h1 : H[o]? = some (.idict D)) (h2 : get k D = none) : cmpV H .in_ (.int k) (.obj o) = some false := by
 show o1 H[o]? _ = _
 rw [h1]
 show some (get k D).isSome = _
 rw [h2]; rfl
theorem set_attr {cl : Nm} {fs : List (Nm × V)} (h1 : H[i]? = some (.inst cl fs)) (h2 : (okAttr n && Nat.blt fs.length 100) = true) : setAttrV H (.obj i) n w = some (H.set i (.inst cl (put n w fs))) := by
 show o1 H[i]? _ = _
 rw [h1]
 rw [Bool.and_eq_true] at h2
 exact if_pos ⟨h2.1, Nat.le_of_ble_eq_true h2.2⟩
theorem set_sub {D : List (Int × V)} (h1 : H[o]? = some (.idict D)) (h2 : D.length < 100000) : setSubV H (.obj o) (.int k) w = some (H.set o (.idict (put k w D))) := by
 show o1 H[o]? _ = _
 rw [h1]
 show orE (if D.length < 100000 then _ else none) _ = _
 rw [if_pos h2]; rfl
theorem p_get {H H' : MH} {a : Nat} {o : O} (p : H <+: H') (h : H[a]? = some o) : H'[a]? = some o := by
 obtain ⟨X, rfl⟩ := p
 rw [List.getElem?_append_left (List.getElem?_eq_some_iff.mp h).1]; exact h
theorem app_new (H : MH) (o : O) : (H ++ [o])[H.length]? = some o := by rw [List.getElem?_append_right (Nat.le_refl _), Nat.sub_self]; rfl
theorem pre_app (H X : MH) : H <+: H ++ X := ⟨X, rfl⟩
theorem app_get {H X : MH} {a : Nat} {o : O} (h : H[a]? = some o) : (H ++ X)[a]? = some o := p_get (pre_app H X) h
end
theorem cf_max (n : Nat) (a b : Int) (H : MH) : cf (n + 1) (.g .k_max) [.int a, .int b] H = some (.int (max a b), H) := cf_bi rfl
theorem cf_min (n : Nat) (a b : Int) (H : MH) : cf (n + 1) (.g .k_min) [.int a, .int b] H = some (.int (min a b), H) := cf_bi rfl
theorem cf_abs (n : Nat) (a : Int) (H : MH) : cf (n + 1) (.g .k_abs) [.int a] H = some (.int a.natAbs, H) := cf_bi rfl
noncomputable abbrev IV := Int × Int
noncomputable def iv (p : IV) : V := .pair (.int p.1) (.int p.2)
noncomputable def oiv : Option IV → V
 | none => .none
 | some p => iv p
noncomputable def fullI : IV := (-2147483648, 2147483647)
noncomputable def meetI (x y : IV) : Option IV := if max x.1 y.1 > min x.2 y.2 then none else some (max x.1 y.1, min x.2 y.2)
noncomputable def joinI (x y : IV) : IV := (min x.1 y.1, max x.2 y.2)
noncomputable def withinI (x y : IV) : Bool := decide (y.1 ≤ x.1) && decide (x.2 ≤ y.2)
noncomputable def widenI (o n : IV) : IV := (if n.1 ≥ o.1 then o.1 else -2147483648, if n.2 ≤ o.2 then o.2 else 2147483647)
noncomputable def clipI (a b : Int) : IV := if max a (-2147483648) > min b 2147483647 then fullI else (max a (-2147483648), min b 2147483647)
theorem c_full (n : Nat) (H : MH) : cf (n + 1) (.g .k_full) [] H = some (iv fullI, H) := cl_eq rfl rfl rfl ⟨rfl, rfl⟩
theorem c_single (n : Nat) (H : MH) (a : Int) : cf (n + 1) (.g .k_single) [.int a] H = some (iv (a, a), H) := cl_eq rfl rfl rfl ⟨rfl, rfl⟩
theorem c_within (n : Nat) (H : MH) (x y : IV) : cf (n + 1) (.g .k_within) [iv x, iv y] H = some (.bool (withinI x y), H) := by
 refine cl_eq rfl rfl rfl (wIf_c (fun h => ⟨?_, rfl⟩) fun h => ⟨?_, rfl⟩)
 ·unfold withinI; rw [decide_eq_true h, Bool.true_and]
 ·unfold withinI; rw [decide_eq_false h, Bool.false_and]
theorem c_join (n : Nat) (H : MH) (x y : IV) : cf (n + 2) (.g .k_join) [iv x, iv y] H = some (iv (joinI x y), H) := by
 refine cl_eq rfl rfl rfl (W2.s (cf_min _ _ _ _) (W2.s (cf_max _ _ _ _) ⟨rfl, rfl⟩))
theorem c_widen (n : Nat) (H : MH) (x y : IV) : cf (n + 1) (.g .k_widen) [iv x, iv y] H = some (iv (widenI x y), H) := by
 refine cl_eq rfl rfl rfl (wIf_c (fun h => wIf_c (fun h2 => ⟨?_, rfl⟩) fun h2 => ⟨?_, rfl⟩) fun h => wIf_c (fun h2 => ⟨?_, rfl⟩) fun h2 => ⟨?_, rfl⟩)
 ·unfold widenI; rw [if_pos h, if_pos h2]; rfl
 ·unfold widenI; rw [if_pos h, if_neg h2]; rfl
 ·unfold widenI; rw [if_neg h, if_pos h2]; rfl
 ·unfold widenI; rw [if_neg h, if_neg h2]; rfl
theorem c_meet (n : Nat) (H : MH) (x y : IV) : cf (n + 2) (.g .k_meet) [iv x, iv y] H = some (oiv (meetI x y), H) := by
 refine cl_eq rfl rfl rfl (W2.s (cf_max _ _ _ _) (W2.s (cf_min _ _ _ _) (wIf_c (fun h => ⟨?_, rfl⟩) fun h => ⟨?_, rfl⟩)))
 ·unfold meetI; rw [if_pos h]; rfl
 ·unfold meetI; rw [if_neg h]; rfl
theorem Cl.ex {n : Nat} {f : Nm} {as : List V} {H : MH} {α : Type} {g : α → V} (h : ∃ v H', cf n (.g f) as H = some (v, H') ∧ ∃ t, v = g t ∧ H' = H) : ∃ t, cf n (.g f) as H = some (g t, H) := by
 obtain ⟨_, _, e, t, rfl, rfl⟩ := h; exact ⟨t, e⟩
theorem c_clipped (n : Nat) (H : MH) (a b : Int) : ∃ t, cf (n + 2) (.g .k_clipped) [.int a, .int b] H = some (.pair (iv (clipI a b)) (.bool t), H) := by
 refine Cl.ex (g := fun t => .pair (iv (clipI a b)) (.bool t)) (cl_run rfl rfl rfl (wIf_c (fun _ => ?_) fun _ => ?_))
 all_goals exact W2.s (cf_max _ _ _ _) (W2.s (cf_min _ _ _ _) (wIf_c (fun h => W2.s (c_full _ _) ⟨_, by unfold clipI; rw [if_pos h], rfl⟩) fun h => ⟨_, by unfold clipI; rw [if_neg h]; rfl, rfl⟩))
theorem c_add (n : Nat) (H : MH) (x y : IV) : ∃ t, cf (n + 3) (.g .k_add) [iv x, iv y] H = some (.pair (iv (clipI (x.1 + y.1) (x.2 + y.2))) (.bool t), H) := by
 obtain ⟨t, h⟩ := c_clipped n H (x.1 + y.1) (x.2 + y.2)
 exact ⟨t, cl_eq rfl rfl rfl (W2.s h ⟨rfl, rfl⟩)⟩
noncomputable def oiv2 : Option (IV × IV) → V
 | none => .none
 | some (l, r) => .pair (iv l) (iv r)
noncomputable def both {α β : Type} : Option α → Option β → Option (α × β)
 | some l, some r => some (l, r)
 | _, _ => none
noncomputable def belowI (x y : IV) (g : Int) : Option (IV × IV) := if y.2 - g < -2147483648 then none else if x.1 + g > 2147483647 then none else both (meetI x (-2147483648, y.2 - g)) (meetI y (x.1 + g, 2147483647))
theorem c_below (n : Nat) (H : MH) (x y : IV) (g : Int) : cf (n + 3) (.g .k_below) [iv x, iv y, .int g] H = some (oiv2 (belowI x y g), H) := by
 have e1 := c_meet n H x (-2147483648, y.2 - g)
 have e2 := c_meet n H y (x.1 + g, 2147483647)
 refine cl_eq rfl rfl rfl (wIf_c (fun h => ⟨by unfold belowI; rw [if_pos h]; rfl, rfl⟩) fun h => wIf_c (fun h2 => ⟨by unfold belowI; rw [if_neg h, if_pos h2]; rfl, rfl⟩) fun h2 => W2.s e1 (W2.s e2 ?_))
 unfold belowI
 rw [if_neg h, if_neg h2]
 cases meetI x (-2147483648, y.2 - g) with
 | none => exact ⟨rfl, rfl⟩
 | some l => cases meetI y (x.1 + g, 2147483647) with
  | none => exact ⟨rfl, rfl⟩
  | some r => exact ⟨rfl, rfl⟩
noncomputable def withoutI (x : IV) (n : Int) : Option IV := if x.1 = n then (if x.2 = n then none else some (n + 1, x.2)) else if x.2 = n then some (x.1, n - 1) else some x
theorem c_without (n : Nat) (H : MH) (x : IV) (k : Int) : cf (n + 1) (.g .k_without) [iv x, .int k] H = some (oiv (withoutI x k), H) := by
 refine cl_eq rfl rfl rfl (wIf_c (fun h => wIf_c (fun h2 => ?_) fun h2 => wIf_dt h ?_) fun h => wIf_df h (wIf_c (fun h2 => ?_) fun h2 => ?_))
 ·exact ⟨by unfold withoutI; rw [if_pos h, if_pos h2]; rfl, rfl⟩
 ·exact ⟨by unfold withoutI; rw [if_pos h, if_neg h2]; rfl, rfl⟩
 ·exact ⟨by unfold withoutI; rw [if_neg h, if_pos h2]; rfl, rfl⟩
 ·exact ⟨by unfold withoutI; rw [if_neg h, if_neg h2]; rfl, rfl⟩
noncomputable def apartI (x y : IV) : Option (IV × IV) := both (if y.1 = y.2 then withoutI x y.1 else some x) (if x.1 = x.2 then withoutI y x.1 else some y)
theorem c_apart (n : Nat) (H : MH) (x y : IV) : cf (n + 2) (.g .k_apart) [iv x, iv y] H = some (oiv2 (apartI x y), H) := by
 have e1 := c_without n H x y.1
 have e2 := c_without n H y x.1
 have fin : ∀ a b : Option IV, wS (cf (n + 1)) (.seq (.ifs (.or (.cmp .is (.loc .k_left) .cnone) (.cmp .is (.loc .k_right) .cnone)) (.seq (.ret .cnone) .nil) .nil) (.seq (.ret (.pair (.loc .k_left) (.loc .k_right))) .nil)) [(.k_x, iv x), (.k_y, iv y), (.k_left, oiv a), (.k_right, oiv b)] H (endQ fun v H' => v = oiv2 (both a b) ∧ H' = H) := fun a b => by
  cases a with
  | none => exact ⟨rfl, rfl⟩
  | some l => cases b with
   | none => exact ⟨rfl, rfl⟩
   | some r => exact ⟨rfl, rfl⟩
 refine cl_eq rfl rfl rfl (wIf_c (fun h => W2.s e1 (wIf_c (fun h2 => W2.s e2 ?_) fun h2 => ?_)) fun h => wIf_c (fun h2 => W2.s e2 ?_) fun h2 => ?_)
 ·unfold apartI; rw [if_pos h, if_pos h2]; exact fin _ _
 ·unfold apartI; rw [if_pos h, if_neg h2]; exact fin _ (some _)
 ·unfold apartI; rw [if_neg h, if_pos h2]; exact fin (some _) _
 ·unfold apartI; rw [if_neg h, if_neg h2]; exact fin (some _) (some _)
noncomputable def nodeO (op : Nm) (pl : Int) (ty : V) (kl : Nat) (val : V) (s : Bool) : O := .inst .k_Node [(.k_op, .str op), (.k_place, .int pl), (.k_type, ty), (.k_kids, .obj kl), (.k_value, val), (.k_sure, .bool s)]
noncomputable def stO (sl w : Nat) (m : Bool) (l : Int) : O := .inst .k_Ranges [(.k_level, .int 1), (.k_slots, .obj sl), (.k_marking, .bool m), (.k_loops, .int l), (.k_written, .obj w)]
noncomputable def objO (nm : Nm) (ty : V) (slot : Int) : O := .inst .k_Obj [(.k_name, .str nm), (.k_kind, .str .k_var), (.k_type, ty), (.k_place, .int 0), (.k_exported, .bool false), (.k_readonly, .bool false), (.k_level, .int 1), (.k_module, .str .k_M), (.k_value, .none), (.k_slot, .int slot), (.k_offset, .int 0), (.k_number, .int 0), (.k_isparam, .bool false), (.k_narrowed, .none)]
noncomputable def typeO (num : Int) (form : Nm) (size : Int) (base : V) (len : Int) (fl pl hl : Nat) : O := .inst .k_Type [(.k_number, .int num), (.k_form, .str form), (.k_size, .int size), (.k_base, base), (.k_length, .int len), (.k_fields, .obj fl), (.k_level, .int 0), (.k_params, .obj pl), (.k_module, .str .k_empty), (.k_label, .str .k_empty), (.k_hidden, .obj hl), (.k_exno, .int 0)]
noncomputable def isSt : O → Bool
 | .inst c _ => decide (c = .k_Ranges)
 | _ => false
theorem set_keep {H : MH} {st a : Nat} {o o' p : O} (hs : H[st]? = some p) (h : H[a]? = some o) (i : isSt p = true) (j : isSt o = false) : (H.set st o')[a]? = some o := by
 rw [List.getElem?_set]
 by_cases e : st = a
 ·subst e; rw [hs] at h; cases h; rw [i] at j; cases j
 ·rw [if_neg e]; exact h
theorem set_same {H : MH} {a : Nat} {o p : O} (h : H[a]? = some p) : (H.set a o)[a]? = some o := by
 rw [List.getElem?_set]
 have hlt : a < H.length := by
  rcases Nat.lt_or_ge a H.length with h1 | h1
  ·exact h1
  ·rw [List.getElem?_eq_none h1] at h; cases h
 simp [hlt]
theorem set_back {H : MH} {a : Nat} {o : O} (h : H[a]? = some o) : H.set a o = H := by
 refine List.ext_getElem? fun i => ?_
 rw [List.getElem?_set]
 by_cases e : a = i
 ·subst e
  have hlt : a < H.length := by
   rcases Nat.lt_or_ge a H.length with h1 | h1
   ·exact h1
   ·rw [List.getElem?_eq_none h1] at h; cases h
  simp [hlt, ← h]
 ·simp [e]
theorem set_set' (H : MH) (a : Nat) (o p : O) : (H.set a o).set a p = H.set a p := by simp
theorem c_known (n : Nat) (H : MH) (x : IV) : cf (n + 1) (.g .k_known) [iv x] H = some (iv x, H) := cl_eq rfl rfl rfl ⟨rfl, rfl⟩
theorem c_known_none (n : Nat) (H : MH) : cf (n + 2) (.g .k_known) [.none] H = some (iv fullI, H) := cl_eq rfl rfl rfl (W2.s (c_full _ _) ⟨rfl, rfl⟩)
inductive IsTy (H : MH) (t : Nat) (form : Nm) (len : Int) : Prop where
 | mk (num size : Int) (base : V) (fl pl hl : Nat) (h : H[t]? = some (typeO num form size base len fl pl hl)) : IsTy H t form len
theorem ty_attr {H : MH} {t : Nat} {form : Nm} {len : Int} (h : IsTy H t form len) : attrOf H (.obj t) .k_form = some (.str form) := by
 obtain ⟨_, _, _, _, _, _, h⟩ := h; exact attr_s h rfl
theorem ty_len {H : MH} {t : Nat} {form : Nm} {len : Int} (h : IsTy H t form len) : attrOf H (.obj t) .k_length = some (.int len) := by
 obtain ⟨_, _, _, _, _, _, h⟩ := h; exact attr_s h rfl
theorem c_tr_int (n : Nat) (H : MH) {t : Nat} {len : Int} (h : IsTy H t .k_integer len) : cf (n + 2) (.g .k_type_range) [.obj t] H = some (iv fullI, H) :=
 cl_eq rfl rfl rfl (WO.s (ty_attr h) (WO.s (ty_attr h) (W2.s (c_full _ _) ⟨rfl, rfl⟩)))
theorem c_tr_oth (n : Nat) (H : MH) {t : Nat} {form : Nm} {len : Int} (h : IsTy H t form len) (h1 : decide (form ∈ [Nm.k_integer, .k_byte]) = false) : cf (n + 1) (.g .k_type_range) [.obj t] H = some (.none, H) :=
 cl_eq rfl rfl rfl (WO.s (ty_attr h) (wIf_t (show (true ^^ decide (form ∈ [Nm.k_integer, .k_byte])) = true by rw [h1]; rfl) ⟨rfl, rfl⟩))
section
variable (n : Nat) (H : MH) {st a sl w : Nat} {m : Bool} {l pl : Int} {ty ty' : V} {kl v : Nat} {s : Bool} {nm : Nm} {slot : Int} {D E : List (Int × V)} {x y : V}
theorem c_fs_var (hs : H[st]? = some (stO sl w m l)) (ha : H[a]? = some (nodeO .k_var pl ty kl (.obj v) s)) (hv : H[v]? = some (objO nm ty' slot)) (hd : H[sl]? = some (.idict D)) (hg : get slot D = some x) : cf (n + 1) (.g .k_followed_slot) [.obj st, .obj a] H = some (.int slot, H) := by
 refine cl_eq (ρ := [(.k_st, .obj st), (.k_node, .obj a)]) rfl rfl rfl ?_
 (repeat (first | exact ⟨rfl, rfl⟩ | (apply WO.s; (· (first | assumption | (apply attr_s; (· (repeat (first | assumption | exact app_new _ _ | apply app_get))); (· rfl)) | (apply sub_l; (· (repeat (first | assumption | exact app_new _ _ | apply app_get))); (· (first | rfl | assumption))) | (apply sub_d; (· (repeat (first | assumption | exact app_new _ _ | apply app_get))); (· (first | rfl | assumption))) | (apply sub_s; (· (repeat (first | assumption | exact app_new _ _ | apply app_get))); (· (first | rfl | assumption))) | (apply in_t; (· (repeat (first | assumption | exact app_new _ _ | apply app_get))); (· (first | rfl | assumption))) | (apply in_f; (· (repeat (first | assumption | exact app_new _ _ | apply app_get))); (· (first | rfl | assumption))) | (apply set_attr; (· (repeat (first | assumption | exact app_new _ _ | apply app_get))); (· rfl)) | (apply set_sub; (· (repeat (first | assumption | exact app_new _ _ | apply app_get))); (· assumption))))) | (apply W2.s; (· first | assumption | exact i2_l (by (repeat (first | assumption | exact app_new _ _ | apply app_get))))) | (apply wIf_dt; (· first | assumption | omega)) | (apply wIf_df; (· first | assumption | omega))))
theorem c_fs_var_out (hs : H[st]? = some (stO sl w m l)) (ha : H[a]? = some (nodeO .k_var pl ty kl (.obj v) s)) (hv : H[v]? = some (objO nm ty' slot)) (hd : H[sl]? = some (.idict D)) (hg : get slot D = none) : cf (n + 1) (.g .k_followed_slot) [.obj st, .obj a] H = some (.int (-1), H) := by
 refine cl_eq (ρ := [(.k_st, .obj st), (.k_node, .obj a)]) rfl rfl rfl ?_
 (repeat (first | exact ⟨rfl, rfl⟩ | (apply WO.s; (· (first | assumption | (apply attr_s; (· (repeat (first | assumption | exact app_new _ _ | apply app_get))); (· rfl)) | (apply sub_l; (· (repeat (first | assumption | exact app_new _ _ | apply app_get))); (· (first | rfl | assumption))) | (apply sub_d; (· (repeat (first | assumption | exact app_new _ _ | apply app_get))); (· (first | rfl | assumption))) | (apply sub_s; (· (repeat (first | assumption | exact app_new _ _ | apply app_get))); (· (first | rfl | assumption))) | (apply in_t; (· (repeat (first | assumption | exact app_new _ _ | apply app_get))); (· (first | rfl | assumption))) | (apply in_f; (· (repeat (first | assumption | exact app_new _ _ | apply app_get))); (· (first | rfl | assumption))) | (apply set_attr; (· (repeat (first | assumption | exact app_new _ _ | apply app_get))); (· rfl)) | (apply set_sub; (· (repeat (first | assumption | exact app_new _ _ | apply app_get))); (· assumption))))) | (apply W2.s; (· first | assumption | exact i2_l (by (repeat (first | assumption | exact app_new _ _ | apply app_get))))) | (apply wIf_dt; (· first | assumption | omega)) | (apply wIf_df; (· first | assumption | omega))))
theorem c_fs_not {op : Nm} {val : V} (ha : H[a]? = some (nodeO op pl ty kl val s)) (h : op ≠ .k_var) : cf (n + 1) (.g .k_followed_slot) [.obj st, .obj a] H = some (.int (-1), H) := by
 refine cl_eq (ρ := [(.k_st, .obj st), (.k_node, .obj a)]) rfl rfl rfl ?_
 (repeat (first | exact ⟨rfl, rfl⟩ | (apply WO.s; (· (first | assumption | (apply attr_s; (· (repeat (first | assumption | exact app_new _ _ | apply app_get))); (· rfl)) | (apply sub_l; (· (repeat (first | assumption | exact app_new _ _ | apply app_get))); (· (first | rfl | assumption))) | (apply sub_d; (· (repeat (first | assumption | exact app_new _ _ | apply app_get))); (· (first | rfl | assumption))) | (apply sub_s; (· (repeat (first | assumption | exact app_new _ _ | apply app_get))); (· (first | rfl | assumption))) | (apply in_t; (· (repeat (first | assumption | exact app_new _ _ | apply app_get))); (· (first | rfl | assumption))) | (apply in_f; (· (repeat (first | assumption | exact app_new _ _ | apply app_get))); (· (first | rfl | assumption))) | (apply set_attr; (· (repeat (first | assumption | exact app_new _ _ | apply app_get))); (· rfl)) | (apply set_sub; (· (repeat (first | assumption | exact app_new _ _ | apply app_get))); (· assumption))))) | (apply W2.s; (· first | assumption | exact i2_l (by (repeat (first | assumption | exact app_new _ _ | apply app_get))))) | (apply wIf_dt; (· first | assumption | omega)) | (apply wIf_df; (· first | assumption | omega))))
theorem c_look_const {env : V} {t : Nat} {k len : Int} (ht : IsTy H t .k_integer len) (ha : H[a]? = some (nodeO .k_const pl (.obj t) kl (.int k) s)) : cf (n + 3) (.g .k_look) [.obj st, env, .obj a] H = some (iv (k, k), H) := by
 have e := c_tr_int n H ht
 have e2 := c_single (n + 1) H k
 refine cl_eq (ρ := [(.k_st, .obj st), (.k_env, env), (.k_node, .obj a)]) rfl rfl rfl ?_
 (repeat (first | exact ⟨rfl, rfl⟩ | (apply WO.s; (· (first | assumption | (apply attr_s; (· (repeat (first | assumption | exact app_new _ _ | apply app_get))); (· rfl)) | (apply sub_l; (· (repeat (first | assumption | exact app_new _ _ | apply app_get))); (· (first | rfl | assumption))) | (apply sub_d; (· (repeat (first | assumption | exact app_new _ _ | apply app_get))); (· (first | rfl | assumption))) | (apply sub_s; (· (repeat (first | assumption | exact app_new _ _ | apply app_get))); (· (first | rfl | assumption))) | (apply in_t; (· (repeat (first | assumption | exact app_new _ _ | apply app_get))); (· (first | rfl | assumption))) | (apply in_f; (· (repeat (first | assumption | exact app_new _ _ | apply app_get))); (· (first | rfl | assumption))) | (apply set_attr; (· (repeat (first | assumption | exact app_new _ _ | apply app_get))); (· rfl)) | (apply set_sub; (· (repeat (first | assumption | exact app_new _ _ | apply app_get))); (· assumption))))) | (apply W2.s; (· first | assumption | exact i2_l (by (repeat (first | assumption | exact app_new _ _ | apply app_get))))) | (apply wIf_dt; (· first | assumption | omega)) | (apply wIf_df; (· first | assumption | omega))))
theorem c_look_var {e : Nat} (hs : H[st]? = some (stO sl w m l)) (ha : H[a]? = some (nodeO .k_var pl ty kl (.obj v) s)) (hv : H[v]? = some (objO nm ty' slot)) (hd : H[sl]? = some (.idict D)) (hg : get slot D = some x) (he : H[e]? = some (.idict E)) (hy : get slot E = some y) (h0 : 0 ≤ slot) : cf (n + 2) (.g .k_look) [.obj st, .obj e, .obj a] H = some (y, H) := by
 have e1 := c_fs_var n H hs ha hv hd hg
 refine cl_eq (ρ := [(.k_st, .obj st), (.k_env, .obj e), (.k_node, .obj a)]) rfl rfl rfl ?_
 (repeat (first | exact ⟨rfl, rfl⟩ | (apply WO.s; (· (first | assumption | (apply attr_s; (· (repeat (first | assumption | exact app_new _ _ | apply app_get))); (· rfl)) | (apply sub_l; (· (repeat (first | assumption | exact app_new _ _ | apply app_get))); (· (first | rfl | assumption))) | (apply sub_d; (· (repeat (first | assumption | exact app_new _ _ | apply app_get))); (· (first | rfl | assumption))) | (apply sub_s; (· (repeat (first | assumption | exact app_new _ _ | apply app_get))); (· (first | rfl | assumption))) | (apply in_t; (· (repeat (first | assumption | exact app_new _ _ | apply app_get))); (· (first | rfl | assumption))) | (apply in_f; (· (repeat (first | assumption | exact app_new _ _ | apply app_get))); (· (first | rfl | assumption))) | (apply set_attr; (· (repeat (first | assumption | exact app_new _ _ | apply app_get))); (· rfl)) | (apply set_sub; (· (repeat (first | assumption | exact app_new _ _ | apply app_get))); (· assumption))))) | (apply W2.s; (· first | assumption | exact i2_l (by (repeat (first | assumption | exact app_new _ _ | apply app_get))))) | (apply wIf_dt; (· first | assumption | omega)) | (apply wIf_df; (· first | assumption | omega))))
end
theorem c_quiet (n : Nat) (H : MH) {st sl w : Nat} {m : Bool} {l : Int} {env nd v : V} (hs : H[st]? = some (stO sl w m l)) (hl : cf n (.g .k_look) [.obj st, env, nd] (H.set st (stO sl w false l)) = some (v, H.set st (stO sl w false l))) : cf (n + 1) (.g .k_quiet) [.obj st, env, nd] H = some (v, H) := by
 have e2 := set_same (o := stO sl w false l) hs
 have e3 := set_back hs
 refine cl_eq (ρ := [(.k_st, .obj st), (.k_env, env), (.k_node, nd)]) rfl rfl rfl ?_
 (repeat (first | exact ⟨rfl, rfl⟩ | (apply WO.s; (· (first | assumption | (apply attr_s; (· (repeat (first | assumption | exact app_new _ _ | apply app_get))); (· rfl)) | (apply sub_l; (· (repeat (first | assumption | exact app_new _ _ | apply app_get))); (· (first | rfl | assumption))) | (apply sub_d; (· (repeat (first | assumption | exact app_new _ _ | apply app_get))); (· (first | rfl | assumption))) | (apply sub_s; (· (repeat (first | assumption | exact app_new _ _ | apply app_get))); (· (first | rfl | assumption))) | (apply in_t; (· (repeat (first | assumption | exact app_new _ _ | apply app_get))); (· (first | rfl | assumption))) | (apply in_f; (· (repeat (first | assumption | exact app_new _ _ | apply app_get))); (· (first | rfl | assumption))) | (apply set_attr; (· (repeat (first | assumption | exact app_new _ _ | apply app_get))); (· rfl)) | (apply set_sub; (· (repeat (first | assumption | exact app_new _ _ | apply app_get))); (· assumption))))) | (apply W2.s; (· first | assumption | exact i2_l (by (repeat (first | assumption | exact app_new _ _ | apply app_get))))) | (apply wIf_dt; (· first | assumption | omega)) | (apply wIf_df; (· first | assumption | omega))))
 exact ⟨rfl, (set_set' _ _ _ _).trans e3⟩
theorem cf_dict (n : Nat) {H : MH} {e : Nat} {E : List (Int × V)} (he : H[e]? = some (.idict E)) : cf (n + 1) (.g .k_dict) [.obj e] H = some (.obj H.length, H ++ [.idict E]) := by
 rw [cf_bi rfl]
 show o1 H[e]? _ = _
 rw [he]; rfl
theorem cf_len (n : Nat) {H : MH} {e : Nat} {E : List V} (he : H[e]? = some (.list E)) : cf (n + 1) (.g .k_len) [.obj e] H = some (.int E.length, H) := by
 rw [cf_bi rfl]
 show o1 H[e]? _ = _
 rw [he]; rfl
theorem cf_list (n : Nat) {H : MH} {e : Nat} {E : List V} (he : H[e]? = some (.list E)) : cf (n + 1) (.g .k_list) [.obj e] H = some (.obj H.length, H ++ [.list E]) := by
 rw [cf_bi rfl]
 show o1 H[e]? _ = _
 rw [he]; rfl
theorem app_set (H0 : MH) (o p : O) : (H0 ++ [o]).set H0.length p = H0 ++ [p] := by simp
theorem c_with_slot (n : Nat) (H : MH) {e : Nat} {k : Int} {v : V} {E : List (Int × V)} (he : H[e]? = some (.idict E)) (hl : E.length < 100000) : cf (n + 2) (.g .k_with_slot) [.obj e, .int k, v] H = some (.obj H.length, H ++ [.idict (put k v E)]) := by
 refine cl_eq (ρ := [(.k_env, .obj e), (.k_slot, .int k), (.k_interval, v)]) rfl rfl rfl (W2.s (cf_dict n he) (WO.s (set_sub (app_new _ _) hl) ⟨rfl, app_set _ _ _⟩))
noncomputable def oppD : List (Nm × V) := [(.k_eq, .str .k_ne), (.k_ne, .str .k_eq), (.k_lt, .str .k_ge), (.k_ge, .str .k_lt), (.k_gt, .str .k_le), (.k_le, .str .k_gt)]
noncomputable def oppN (op : Nm) : Nm := if op = .k_eq then .k_ne else if op = .k_ne then .k_eq else if op = .k_lt then .k_ge else if op = .k_ge then .k_lt else if op = .k_gt then .k_le else .k_gt
noncomputable def relL : List Nm := [.k_eq, .k_ne, .k_lt, .k_le, .k_gt, .k_ge]
noncomputable def isRel (op : Nm) : Bool := decide (op ∈ relL)
theorem rel_cases {op : Nm} (h : isRel op = true) {P : Nm → Prop} (h1 : P .k_eq) (h2 : P .k_ne) (h3 : P .k_lt) (h4 : P .k_le) (h5 : P .k_gt) (h6 : P .k_ge) : P op := by
 have h := of_decide_eq_true h
 simp only [relL, List.mem_cons, List.not_mem_nil, or_false] at h
 rcases h with rfl | rfl | rfl | rfl | rfl | rfl <;> assumption
theorem rel_ne {op a : Nm} (h : isRel op = true) (ha : isRel a = false) : op ≠ a := by
 rintro rfl; rw [h] at ha; cases ha
theorem rel_opp {op : Nm} (h : isRel op = true) : isRel (oppN op) = true := by
 apply rel_cases h <;> rfl
theorem c_opposite (n : Nat) (H : MH) {op : Nm} (h : isRel op = true) : cf (n + 1) (.g .k_opposite) [.str op] H = some (.str (oppN op), H ++ [.sdict oppD]) := by
 have e : get op oppD = some (.str (oppN op)) := by apply rel_cases h <;> rfl
 exact cl_eq (ρ := [(.k_op, .str op)]) rfl rfl rfl (WO.s (sub_s (app_new _ _) e) ⟨rfl, rfl⟩)
noncomputable def narrowI (op : Nm) (x y : IV) : Option (IV × IV) :=
 if op = .k_eq then (meetI x y).map fun b => (b, b)
 else if op = .k_ne then apartI x y
 else if op = .k_lt then belowI x y 1
 else if op = .k_le then belowI x y 0
 else if op = .k_gt then (belowI y x 1).map fun p => (p.2, p.1)
 else (belowI y x 0).map fun p => (p.2, p.1)
theorem c_narrow (n : Nat) (H : MH) {op : Nm} (x y : IV) (h : isRel op = true) : cf (n + 4) (.g .k_narrow) [.str op, iv x, iv y] H = some (oiv2 (narrowI op x y), H) := by
 have e0 := c_meet (n + 1) H x y
 have e1 := c_apart (n + 1) H x y
 have e2 := c_below n H x y 1
 have e3 := c_below n H x y 0
 have e4 := c_below n H y x 1
 have e5 := c_below n H y x 0
 apply rel_cases h
 ·show _ = some (oiv2 ((meetI x y).map fun b => (b, b)), H)
  generalize meetI x y = o at e0 ⊢
  cases o <;> exact cl_eq (ρ := [(.k_op, .str .k_eq), (.k_x, iv x), (.k_y, iv y)]) rfl rfl rfl (W2.s e0 ⟨rfl, rfl⟩)
 ·exact cl_eq (ρ := [(.k_op, .str .k_ne), (.k_x, iv x), (.k_y, iv y)]) rfl rfl rfl (W2.s e1 ⟨rfl, rfl⟩)
 ·exact cl_eq (ρ := [(.k_op, .str .k_lt), (.k_x, iv x), (.k_y, iv y)]) rfl rfl rfl (W2.s e2 ⟨rfl, rfl⟩)
 ·exact cl_eq (ρ := [(.k_op, .str .k_le), (.k_x, iv x), (.k_y, iv y)]) rfl rfl rfl (W2.s e3 ⟨rfl, rfl⟩)
 ·show _ = some (oiv2 ((belowI y x 1).map fun p => (p.2, p.1)), H)
  generalize belowI y x 1 = o at e4 ⊢
  cases o <;> exact cl_eq (ρ := [(.k_op, .str .k_gt), (.k_x, iv x), (.k_y, iv y)]) rfl rfl rfl (W2.s e4 ⟨rfl, rfl⟩)
 ·show _ = some (oiv2 ((belowI y x 0).map fun p => (p.2, p.1)), H)
  generalize belowI y x 0 = o at e5 ⊢
  cases o <;> exact cl_eq (ρ := [(.k_op, .str .k_ge), (.k_x, iv x), (.k_y, iv y)]) rfl rfl rfl (W2.s e5 ⟨rfl, rfl⟩)
section
variable {c : CF} {x y : Nm} {b : S} {ρ ρ2 : Loc} {H : MH} {Q : Fl → Loc → MH → Prop} {e as : X}
theorem turn_s {v : V} (h : wS c b (put x v ρ) H Q) (hρ : Sub ρ ρ2) : GoS c b (put x v ρ2) H Q := wS_s b (hρ.put x v) h
noncomputable def wFor (c : CF) (x : Nm) (b : S) (Q : Fl → Loc → MH → Prop) : List V → Loc → MH → Prop
 | [], ρ, H => Q .next ρ H
 | v :: r, ρ, H => wS c b (put x v ρ) H fun fl ρ H => match fl with
  | .next => wFor c x b Q r ρ H
  | .brk => Q .next ρ H
  | .ret v => Q (.ret v) ρ H
theorem wFor_s : ∀ (items : List V) {ρ ρ2 : Loc} (hρ : Sub ρ ρ2) {H : MH}, wFor c x b Q items ρ H → ∃ r, forL (fun v ρ H => evS c b (put x v ρ) H) items ρ2 H = some r ∧ ∃ ρ', Sub ρ' r.2.1 ∧ Q r.1 ρ' r.2.2
 | [], ρ, ρ2, hρ, H, h => ⟨_, rfl, ρ, hρ, h⟩
 | v :: r, ρ, ρ2, hρ, H, h => by
  refine hide fun Ψ kΨ => ?_
  obtain ⟨⟨fl, ρ3, H3⟩, e, ρ', hs, h⟩ := turn_s h hρ
  refine kΨ ?_
  have e2 : forL (fun v ρ H => evS c b (put x v ρ) H) (v :: r) ρ2 H = lp (some (fl, ρ3, H3)) fun ρ H => forL (fun v ρ H => evS c b (put x v ρ) H) r ρ H := congrArg (fun o => lp o _) e
  cases fl with
  | next => obtain ⟨q, e3, k⟩ := wFor_s r hs h; exact ⟨q, e2.trans e3, k⟩
  | brk => exact ⟨_, e2, ρ', hs, h⟩
  | ret v => exact ⟨_, e2, ρ', hs, h⟩
theorem wl_mk {s : S} (h : ∀ ρ2, Sub ρ ρ2 → ∃ r, evS c s ρ2 H = some r ∧ ∃ ρ', Sub ρ' r.2.1 ∧ Q r.1 ρ' r.2.2) : WL c s ρ H Q := ⟨fun ρ2 hρ => by
 refine hide fun Ψ kΨ => ?_
 obtain ⟨⟨fl, ρ2', H'⟩, e, ρ', hs, q⟩ := h ρ2 hρ
 refine kΨ ?_
 exact ⟨fl, ρ', ρ2', H', e, hs, q⟩⟩
theorem wl_range (h : wEs c ρ as H fun vs H1 => wO (rangeV vs) fun items => wFor c x b Q items ρ H1) : WL c (.forIn x (.range as) b) ρ H Q := wl_mk fun ρ2 hρ =>
 go2 (two_ex (wEs_s hρ as h)) fun vs H1 h => go1 (wO_s h) fun items h => wFor_s items hρ h
structure ForP (c : CF) (x : Nm) (b : S) (Q : Fl → Loc → MH → Prop) (ok : MH → Bool) (items : List V) (I : Nat → Loc → MH → Prop) (ρ : Loc) (H : MH) : Prop where
 i0 : I 0 ρ H
 ok : ∀ k ρ H, I k ρ H → ok H = true
 step : ∀ k v, items[k]? = some v → ∀ ρ H, I k ρ H → wS c b (put x v ρ) H fun fl ρ' H' => match fl with
  | .next => ∃ ρ'', Sub ρ'' ρ' ∧ I (k + 1) ρ'' H'
  | .brk => Q .next ρ' H'
  | .ret v => Q (.ret v) ρ' H'
 fin : ∀ ρ H, I items.length ρ H → Q .next ρ H
theorem ForP.go {ok : MH → Bool} {items : List V} {I : Nat → Loc → MH → Prop} (F : ForP c x b Q ok items I ρ H) (hρ : Sub ρ ρ2) : ∃ r, forG (fun v ρ H => evS c b (put x v ρ) H) ok items ρ2 H = some r ∧ ∃ ρ', Sub ρ' r.2.1 ∧ Q r.1 ρ' r.2.2 := by
 have gen : ∀ (n j : Nat), n + j = items.length → ∀ (ρ ρ2 : Loc) (H : MH), Sub ρ ρ2 → I j ρ H → ∃ r, forG (fun v ρ H => evS c b (put x v ρ) H) ok (items.drop j) ρ2 H = some r ∧ ∃ ρ', Sub ρ' r.2.1 ∧ Q r.1 ρ' r.2.2 := by
  intro n
  induction n with
  | zero =>
   intro j hj ρ ρ2 H hρ i
   rw [List.drop_eq_nil_of_le (by omega)]
   exact ⟨_, if_pos (F.ok _ _ _ i), ρ, hρ, F.fin ρ H (by rw [← hj, Nat.zero_add]; exact i)⟩
  | succ n ih =>
   intro j hj ρ ρ2 H hρ i
   have hv := List.getElem?_eq_getElem (show j < items.length by omega)
   rw [drop_cons_of hv]
   refine hide fun Ψ kΨ => ?_
   obtain ⟨⟨fl, ρ3, H3⟩, e, ρ', hs, h⟩ := turn_s (F.step j _ hv ρ H i) hρ
   refine kΨ ?_
   have e2 : forG (fun v ρ H => evS c b (put x v ρ) H) ok (items[j] :: items.drop (j + 1)) ρ2 H = lp (some (fl, ρ3, H3)) fun ρ H => forG (fun v ρ H => evS c b (put x v ρ) H) ok (items.drop (j + 1)) ρ H := (if_pos (F.ok _ _ _ i)).trans (congrArg (fun o => lp o _) e)
   cases fl with
   | next =>
    refine hide fun Ψ kΨ => ?_
    obtain ⟨ρ'', s2, i2⟩ := h
    obtain ⟨q, e3, k⟩ := ih (j + 1) (by omega) ρ'' ρ3 H3 (s2.trans hs) i2
    refine kΨ ?_
    exact ⟨q, e2.trans e3, k⟩
   | brk => exact ⟨_, e2, ρ', hs, h⟩
   | ret v => exact ⟨_, e2, ρ', hs, h⟩
 exact gen items.length 0 rfl ρ ρ2 H hρ F.i0
theorem wl_rangeI (h : wEs c ρ as H fun vs H1 => ∃ items, rangeV vs = some items ∧ ∃ I, ForP c x b Q (fun _ => true) items I ρ H1) : WL c (.forIn x (.range as) b) ρ H Q := wl_mk fun ρ2 hρ =>
 go2 (two_ex (wEs_s hρ as h)) fun vs H1 h => go1 h fun items h => by
  refine hide fun Ψ kΨ => ?_
  obtain ⟨I, F⟩ := h
  obtain ⟨r, e, q⟩ := F.go hρ
  refine kΨ ?_
  exact ⟨r, (forL_forG _ _ _).trans e, q⟩
theorem wl_in (hp : plainIt e = true) (h : wE c ρ e H fun w H1 => ∃ items, itemsV H1 w = some items ∧ ∃ I, ForP c x b Q (okV H1 w) items I ρ H1) : WL c (.forIn x e b) ρ H Q := wl_mk fun ρ2 hρ => by
 rw [forIn_plain hp]
 exact go2 (two_ex (wE_s hρ e h)) fun w H1 h => go1 h fun items h => by
  obtain ⟨I, F⟩ := h
  exact F.go hρ
theorem iL_ex {γ : Type} {H : MH} {w : V} {f : List V → Option γ} {P : List V → Prop} {R : γ → Prop} (h : ∃ i xs, w = .obj i ∧ H[i]? = some (.list xs) ∧ P xs) (k : ∀ xs, P xs → ∃ r, f xs = some r ∧ R r) : ∃ r, iL H w f = some r ∧ R r := by
 refine hide fun Ψ kΨ => ?_
 obtain ⟨i, xs, rfl, e, p⟩ := h
 obtain ⟨r, e2, q⟩ := k xs p
 refine kΨ ?_
 exact ⟨r, by show o1 H[i]? _ = _; rw [e]; exact e2, q⟩
theorem wl_rev (h : wE c ρ e H fun w H1 => ∃ i xs, w = .obj i ∧ H1[i]? = some (.list xs) ∧ ∃ I, ForP c x b Q (okV H1 w) xs.reverse I ρ H1) : WL c (.forIn x (.reversed e) b) ρ H Q := wl_mk fun ρ2 hρ =>
 go2 (f := fun w H => iL H w fun xs => forG (fun v ρ H => evS c b (put x v ρ) H) (okV H w) xs.reverse ρ2 H) (two_ex (wE_s hρ e h)) fun w H1 h => iL_ex (P := fun xs => ∃ I, ForP c x b Q (okV H1 w) xs.reverse I ρ H1) h fun xs h => by
  obtain ⟨I, F⟩ := h
  exact F.go hρ
structure ForP2 (c : CF) (x y : Nm) (b : S) (Q : Fl → Loc → MH → Prop) (ok : MH → Bool) (items : List V) (I : Nat → Loc → MH → Prop) (ρ : Loc) (H : MH) : Prop where
 i0 : I 0 ρ H
 ok : ∀ k ρ H, I k ρ H → ok H = true
 step : ∀ k v, items[k]? = some v → ∀ ρ H, I k ρ H → ∃ p q, v = .pair p q ∧ wS c b (put y q (put x p ρ)) H fun fl ρ' H' => match fl with
  | .next => ∃ ρ'', Sub ρ'' ρ' ∧ I (k + 1) ρ'' H'
  | .brk => Q .next ρ' H'
  | .ret v => Q (.ret v) ρ' H'
 fin : ∀ ρ H, I items.length ρ H → Q .next ρ H
theorem ForP2.go {ok : MH → Bool} {items : List V} {I : Nat → Loc → MH → Prop} (F : ForP2 c x y b Q ok items I ρ H) (hρ : Sub ρ ρ2) : ∃ r, forG (fun v ρ H => iP v fun p q => evS c b (put y q (put x p ρ)) H) ok items ρ2 H = some r ∧ ∃ ρ', Sub ρ' r.2.1 ∧ Q r.1 ρ' r.2.2 := by
 have gen : ∀ (n j : Nat), n + j = items.length → ∀ (ρ ρ2 : Loc) (H : MH), Sub ρ ρ2 → I j ρ H → ∃ r, forG (fun v ρ H => iP v fun p q => evS c b (put y q (put x p ρ)) H) ok (items.drop j) ρ2 H = some r ∧ ∃ ρ', Sub ρ' r.2.1 ∧ Q r.1 ρ' r.2.2 := by
  intro n
  induction n with
  | zero =>
   intro j hj ρ ρ2 H hρ i
   rw [List.drop_eq_nil_of_le (by omega)]
   exact ⟨_, if_pos (F.ok _ _ _ i), ρ, hρ, F.fin ρ H (by rw [← hj, Nat.zero_add]; exact i)⟩
  | succ n ih =>
   intro j hj ρ ρ2 H hρ i
   have hv := List.getElem?_eq_getElem (show j < items.length by omega)
   rw [drop_cons_of hv]
   refine hide fun Ψ kΨ => ?_
   obtain ⟨p, q, hpq, w⟩ := F.step j _ hv ρ H i
   refine kΨ ?_
   rw [hpq]
   refine hide fun Ψ kΨ => ?_
   obtain ⟨⟨fl, ρ3, H3⟩, e, ρ', hs, h⟩ := wS_s b ((hρ.put x p).put y q) w
   refine kΨ ?_
   have e2 : forG (fun v ρ H => iP v fun p q => evS c b (put y q (put x p ρ)) H) ok (.pair p q :: items.drop (j + 1)) ρ2 H = lp (some (fl, ρ3, H3)) fun ρ H => forG (fun v ρ H => iP v fun p q => evS c b (put y q (put x p ρ)) H) ok (items.drop (j + 1)) ρ H := (if_pos (F.ok _ _ _ i)).trans (congrArg (fun o => lp o _) e)
   cases fl with
   | next =>
    refine hide fun Ψ kΨ => ?_
    obtain ⟨ρ'', s2, i2⟩ := h
    obtain ⟨q, e3, k⟩ := ih (j + 1) (by omega) ρ'' ρ3 H3 (s2.trans hs) i2
    refine kΨ ?_
    exact ⟨q, e2.trans e3, k⟩
   | brk => exact ⟨_, e2, ρ', hs, h⟩
   | ret v => exact ⟨_, e2, ρ', hs, h⟩
 exact gen items.length 0 rfl ρ ρ2 H hρ F.i0
theorem wl_for2 (h : wE c ρ e H fun w H1 => ∃ i xs, w = .obj i ∧ H1[i]? = some (.list xs) ∧ ∃ I, ForP2 c x y b Q (okV H1 w) xs I ρ H1) : WL c (.forIn2 x y e b) ρ H Q := wl_mk fun ρ2 hρ =>
 go2 (two_ex (wE_s hρ e h)) fun w H1 h => iL_ex (P := fun xs => ∃ I, ForP2 c x y b Q (okV H1 w) xs I ρ H1) h fun xs h => by
  obtain ⟨I, F⟩ := h
  exact F.go hρ
theorem wl_whl {t : X} (I : Nat → Loc → MH → Prop) (hs : ∀ j ρ H, I j ρ H → wE c ρ t H fun v H1 => wB v fun x => (x = true → ∃ j', j = j' + 1 ∧ wS c b ρ H1 fun fl ρ' H' => fl = .next ∧ ∃ ρ'', Sub ρ'' ρ' ∧ I j' ρ'' H') ∧ (x = false → Q .next ρ H1)) {j : Nat} (hj : j < 500) (i : I j ρ H) : WL c (.whl t b) ρ H Q := wl_mk fun ρ2 hρ => by
 have gen : ∀ (fuel j : Nat) (ρ ρ2 : Loc) (H : MH), j < fuel → Sub ρ ρ2 → I j ρ H → ∃ r, whF (fun ρ H => evE c ρ t H) (fun ρ H => evS c b ρ H) fuel ρ2 H = some r ∧ ∃ ρ', Sub ρ' r.2.1 ∧ Q r.1 ρ' r.2.2 := by
  intro fuel
  induction fuel with
  | zero => intro j ρ ρ2 H h; omega
  | succ fuel ih =>
   intro j ρ ρ2 H hj hρ i
   refine go2 (two_ex (wE_s hρ t (hs j ρ H i))) fun v H1 h => ?_
   refine hide fun Ψ kΨ => ?_
   obtain ⟨x, rfl, k1, k2⟩ := wB_s h
   refine kΨ ?_
   cases x with
   | false => exact ⟨_, rfl, ρ, hρ, k2 rfl⟩
   | true =>
    refine hide fun Ψ kΨ => ?_
    obtain ⟨j', rfl, w⟩ := k1 rfl
    obtain ⟨⟨fl, ρ3, H3⟩, e, ρ', hs', ef, ρ'', s2, i2⟩ := wS_s b hρ w
    refine kΨ ?_
    dsimp only at ef
    subst ef
    refine hide fun Ψ kΨ => ?_
    obtain ⟨q, e3, k⟩ := ih j' ρ'' ρ3 H3 (by omega) (s2.trans hs') i2
    refine kΨ ?_
    exact ⟨q, (congrArg (fun o => lp o _) e).trans e3, k⟩
 exact gen 500 j ρ ρ2 H hj hρ i
theorem items_l {i : Nat} {l : List V} (h : H[i]? = some (.list l)) : itemsV H (.obj i) = some l := by
 show o1 H[i]? _ = _
 rw [h]; rfl
theorem items_d {i : Nat} {D : List (Int × V)} (h : H[i]? = some (.idict D)) : itemsV H (.obj i) = some (D.map fun p => .int p.1) := by
 show o1 H[i]? _ = _
 rw [h]; rfl
theorem okV_of {H' : MH} {i : Nat} {o : O} (h : H[i]? = some o) (h' : H'[i]? = some o) : okV H (.obj i) H' = true := by simp [okV, h, h']
theorem i2_l {i : Nat} {a d : V} (h : H[i]? = some (.list [a, d])) : i2 H (.obj i) (fun a b => some (a, b)) = some (a, d) := by
 show orE none (o1 H[i]? _) = _
 rw [h]; rfl
end
noncomputable abbrev Aw : Type := Option (V × MH)
structure Ft where
 o : Aw
 a : V × MH
 h : o = some a
noncomputable def oN : Option Nm → V
 | some n => .str n
 | none => .none
noncomputable abbrev Rn (α : Type) : Type := List Ft → Option (α × List Ft × List (Aw × Aw))
section
variable {α β : Type}
noncomputable def pu (a : α) : Rn α := fun fs => some (a, fs, [])
noncomputable def fail : Rn α := fun _ => none
noncomputable def bnd (a : Rn α) (f : α → Rn β) : Rn β := fun fs => o1 (a fs) fun x => o1 (f x.1 x.2.1) fun y => some (y.1, y.2.1, x.2.2 ++ y.2.2)
noncomputable def ofO (o : Option α) (f : α → Rn β) : Rn β := match o with
 | some a => f a
 | none => fail
noncomputable def ask (o : Aw) : Rn (V × MH)
 | f :: r => some (f.a, r, [(f.o, o)])
 | [] => none
noncomputable def Ok (p : List (Aw × Aw)) : Prop := p.map (·.1) = p.map (·.2)
noncomputable def Snd (a : Rn α) (W : (α → Prop) → Prop) : Prop := ∀ fs y fs' p, a fs = some (y, fs', p) → Ok p → ∀ Q, Q y → W Q
theorem pu_s {a : α} : Snd (pu a) fun Q => Q a := fun _ _ _ _ h _ Q q => by
 cases h; exact q
theorem fail_s {W : (α → Prop) → Prop} : Snd fail W := fun _ _ _ _ h => nomatch h
theorem Ok.app {p q : List (Aw × Aw)} (h : Ok (p ++ q)) : Ok p ∧ Ok q := by
 unfold Ok at h ⊢
 rw [List.map_append, List.map_append] at h
 exact List.append_inj h (by rw [List.length_map, List.length_map])
theorem o1_inv {o : Option α} {f : α → Option β} {r : β} (h : o1 o f = some r) : ∃ a, o = some a ∧ f a = some r := by
 cases o with
 | none => cases h
 | some a => exact ⟨a, rfl, h⟩
theorem bnd_s {a : Rn α} {f : α → Rn β} {W : (α → Prop) → Prop} {U : α → (β → Prop) → Prop} (ha : Snd a W) (hf : ∀ x, Snd (f x) (U x)) : Snd (bnd a f) fun Q => W fun x => U x Q := fun fs y fs' p h ok Q q => by
 unfold bnd at h
 obtain ⟨x, e1, h⟩ := o1_inv h
 obtain ⟨z, e2, h⟩ := o1_inv h
 cases h
 exact ha _ _ _ _ e1 ok.app.1 _ (hf _ _ _ _ _ e2 ok.app.2 _ q)
theorem ofO_s {o : Option α} {f : α → Rn β} {U : α → (β → Prop) → Prop} (hf : ∀ x, Snd (f x) (U x)) : Snd (ofO o f) fun Q => wO o fun x => U x Q := by
 cases o with
 | none => exact fail_s
 | some a => exact fun fs y fs' p h ok Q q => hf a fs y fs' p h ok Q q
end
theorem askC_s {o : Aw} : Snd (ask o) fun Q => W2 o fun v H => Q (v, H) := fun fs y fs' p h ok Q q => by
 cases fs with
 | nil => cases h
 | cons f r =>
  cases h
  have x : f.o = o := (List.cons.inj ok).1
  exact .s (x ▸ f.h) q
noncomputable def askV (o : Option V) : Rn V := bnd (ask (o1 o fun w => some (w, []))) fun r => pu r.1
noncomputable def askH (o : Option MH) : Rn MH := bnd (ask (o1 o fun w => some (.none, w))) fun r => pu r.2
section
variable {α : Type} {o : Option α} {g : α → V × MH} {a : α}
theorem WO_of {Q : α → Prop} {P : V → MH → Prop} (h : W2 (o1 o fun w => some (g w)) P) (k : ∀ a, P (g a).1 (g a).2 → Q a) : WO o Q := by
 cases o with
 | none => cases h with
  | s e _ => cases e
 | some a => cases h with
  | s e q => exact .s rfl (k a (by rw [Option.some.inj e]; exact q))
theorem o1_of (h : o = some a) : (o1 o fun w => some (g w)) = some (g a) := h ▸ rfl
end
theorem askV_s {o : Option V} : Snd (askV o) fun Q => WO o Q := fun fs y fs' p h ok Q q => WO_of (bnd_s askC_s (fun _ => pu_s) fs y fs' p h ok Q q) fun _ h => h
theorem askH_s {o : Option MH} : Snd (askH o) fun Q => WO o Q := fun fs y fs' p h ok Q q => WO_of (bnd_s askC_s (fun _ => pu_s) fs y fs' p h ok Q q) fun _ h => h
noncomputable def fv {o : Option V} {w : V} (h : o = some w) : Ft := ⟨_, _, o1_of (g := fun w => (w, [])) h⟩
noncomputable def fh {o : Option MH} {w : MH} (h : o = some w) : Ft := ⟨_, _, o1_of (g := fun w => (V.none, w)) h⟩
noncomputable def fc {o : Aw} {w : V} {H : MH} (h : o = some (w, H)) : Ft := ⟨_, _, h⟩
noncomputable def ft {o : Option Bool} {t : Bool} (h : o = some t) : Ft := ⟨_, _, o1_of (g := fun t => (V.bool t, [])) h⟩
noncomputable def fb {o t : Bool} (h : o = t) : Ft := ⟨some (V.bool o, []), (V.bool t, []), h ▸ rfl⟩
noncomputable def fm {o : Option (Option Nm)} {m : Option Nm} (h : o = some m) : Ft := ⟨_, _, o1_of (g := fun m => (oN m, [])) h⟩
section
variable {β : Type}
noncomputable def rI (v : V) (f : Int → Rn β) : Rn β := match v with
 | .int b => f b
 | _ => fail
noncomputable def rN (v : V) (f : Nm → Rn β) : Rn β := match v with
 | .str b => f b
 | _ => fail
noncomputable def rT (v : V) (A B : Rn β) : Rn β := match v with
 | .bool true => A
 | .bool false => B
 | _ => fail
theorem rI_s {v : V} {f : Int → Rn β} {U : Int → (β → Prop) → Prop} (hf : ∀ x, Snd (f x) (U x)) : Snd (rI v f) fun Q => wI v fun x => U x Q := by
 cases v with
 | int b => exact hf b
 | _ => exact fail_s
theorem rN_s {v : V} {f : Nm → Rn β} {U : Nm → (β → Prop) → Prop} (hf : ∀ x, Snd (f x) (U x)) : Snd (rN v f) fun Q => wN v fun x => U x Q := by
 cases v with
 | str b => exact hf b
 | _ => exact fail_s
theorem rT_s {v : V} {A B : Rn β} {U U' : (β → Prop) → Prop} (hA : Snd A U) (hB : Snd B U') : Snd (rT v A B) fun Q => wB v fun t => wIf t (U Q) (U' Q) := by
 cases v with
 | bool b => cases b with
  | true => exact hA
  | false => exact hB
 | _ => exact fail_s
end
noncomputable def rM (v : V) : Rn (Option Nm) := match v with
 | .str n => pu (some n)
 | .none => pu none
 | _ => fail
noncomputable def askM (o : Option (Option Nm)) : Rn (Option Nm) := bnd (ask (o1 o fun m => some (oN m, []))) fun r => rM r.1
theorem rM_s {v : V} : Snd (rM v) fun Q => ∀ m, v = oN m → Q m := by
 have k1 : ∀ m, V.none = oN m → m = none := fun m e => by
  cases m with
  | none => rfl
  | some k => cases e
 have k2 : ∀ n m, V.str n = oN m → m = some n := fun n m e => by
  cases m with
  | none => cases e
  | some k => cases e; rfl
 cases v with
 | str n => exact fun fs y fs' p h ok Q q m e => k2 n m e ▸ pu_s fs y fs' p h ok Q q
 | none => exact fun fs y fs' p h ok Q q m e => k1 m e ▸ pu_s fs y fs' p h ok Q q
 | _ => exact fail_s
theorem askM_s {o : Option (Option Nm)} : Snd (askM o) fun Q => WO o Q := fun fs y fs' p h ok Q q => WO_of (g := fun m => (oN m, [])) (bnd_s askC_s (fun _ => rM_s) fs y fs' p h ok Q q) fun m h => h m rfl
noncomputable def rB (v : V) : Rn Bool := match v with
 | .bool t => pu t
 | _ => fail
noncomputable def askT (o : Option Bool) : Rn Bool := bnd (ask (o1 o fun t => some (.bool t, []))) fun r => rB r.1
noncomputable def askB (o : Bool) : Rn Bool := bnd (ask (some (.bool o, []))) fun r => rB r.1
theorem rB_s {v : V} : Snd (rB v) fun Q => wB v Q := by
 cases v with
 | bool b => exact pu_s
 | _ => exact fail_s
theorem askT_s {o : Option Bool} : Snd (askT o) fun Q => WO o Q := fun fs y fs' p h ok Q q => WO_of (bnd_s askC_s (fun _ => rB_s) fs y fs' p h ok Q q) fun _ h => h
theorem askB_s {o : Bool} : Snd (askB o) fun Q => Q o := fun fs y fs' p h ok Q q => by
 cases bnd_s askC_s (fun _ => rB_s) fs y fs' p h ok Q q with
 | s e k => cases e; exact k
noncomputable def rAt (H : MH) (v k : V) : Rn V := match v with
 | .pair a b => rI k fun i => if i = 0 then pu a else if i = 1 then pu b else fail
 | v => askV (subOf H v k)
noncomputable def rCm (H : MH) (o : Cm) (a b : V) : Rn Bool := match o with
 | .lt => rI a fun x => rI b fun y => askB (decide (x < y))
 | .le => rI a fun x => rI b fun y => askB (decide (x ≤ y))
 | .gt => rI a fun x => rI b fun y => askB (decide (x > y))
 | .ge => rI a fun x => rI b fun y => askB (decide (x ≥ y))
 | .eq => match a with
  | .int x => rI b fun y => askB (decide (x = y))
  | .str x => rN b fun y => pu (decide (x = y))
  | a => askT (cmpV H .eq a b)
 | .ne => match a with
  | .int x => rI b fun y => askB (!decide (x = y))
  | .str x => rN b fun y => pu (!decide (x = y))
  | a => askT (cmpV H .ne a b)
 | .is => if isN b = true then pu (isN a) else fail
 | .isNot => if isN b = true then pu (!isN a) else fail
 | o => askT (cmpV H o a b)
theorem rIf_s {α : Type} {p : Prop} [Decidable p] {A B : Rn α} {U U' : (α → Prop) → Prop} (hA : Snd A U) (hB : Snd B U') : Snd (if p then A else B) fun Q => wIf (decide p) (U Q) (U' Q) := by
 by_cases h : p
 ·rw [if_pos h]; exact fun fs y fs' q e ok Q k => wIf_dt h (hA fs y fs' q e ok Q k)
 ·rw [if_neg h]; exact fun fs y fs' q e ok Q k => wIf_df h (hB fs y fs' q e ok Q k)
theorem rIff_s {α : Type} {p : Prop} [Decidable p] {A : Rn α} {U : (α → Prop) → Prop} (hA : Snd A U) : Snd (if p then A else fail) fun Q => wIf (decide p) (U Q) False := rIf_s hA fail_s
theorem rIs_s {α : Type} {t : Bool} {A : Rn α} {U : (α → Prop) → Prop} (hA : Snd A U) : Snd (if t = true then A else fail) fun Q => wIf t (U Q) False := by
 cases t with
 | true => exact hA
 | false => exact fail_s
theorem rAt_s {H : MH} {v k : V} : Snd (rAt H v k) fun Q => wAt H v k Q := by
 cases v with
 | pair a b => exact rI_s fun i => rIf_s pu_s (rIf_s pu_s fail_s)
 | _ => exact askV_s
theorem rCm_s {H : MH} {o : Cm} {a b : V} : Snd (rCm H o a b) fun Q => wCm H o a b Q := by
 cases o with
 | lt => exact rI_s fun _ => rI_s fun _ => askB_s
 | le => exact rI_s fun _ => rI_s fun _ => askB_s
 | gt => exact rI_s fun _ => rI_s fun _ => askB_s
 | ge => exact rI_s fun _ => rI_s fun _ => askB_s
 | eq => cases a with
  | int x => exact rI_s fun _ => askB_s
  | str x => exact rN_s fun _ => pu_s
  | _ => exact askT_s
 | ne => cases a with
  | int x => exact rI_s fun _ => askB_s
  | str x => exact rN_s fun _ => pu_s
  | _ => exact askT_s
 | is => exact rIs_s pu_s
 | isNot => exact rIs_s pu_s
 | _ => exact askT_s
noncomputable def rBi (o : Op) (a b : V) (H : MH) : Rn (V × MH) := match o, a with
 | .add, .int x => rI b fun y => pu (.int (x + y), H)
 | .sub, .int x => rI b fun y => pu (.int (x - y), H)
 | o, a => ask (binV o a b H)
theorem rBi_s {o : Op} {a b : V} {H : MH} : Snd (rBi o a b H) fun Q => wBi o a b H fun v H => Q (v, H) := by
 cases o with
 | add => cases a with
  | int x => exact rI_s fun _ => pu_s
  | _ => exact askC_s
 | sub => cases a with
  | int x => exact rI_s fun _ => pu_s
  | _ => exact askC_s
 | _ => exact askC_s
mutual
noncomputable def rE (c : CF) (ρ : Loc) : X → MH → Rn (V × MH)
 | .cnone, H => pu (.none, H)
 | .cbool b, H => pu (.bool b, H)
 | .cint i, H => pu (.int i, H)
 | .cstr s, H => pu (.str s, H)
 | .loc x, H => ofO (get x ρ) fun v => pu (v, H)
 | .glob x, H => pu (gv x, H)
 | .attr e n, H => bnd (rE c ρ e H) fun r => bnd (askV (attrOf r.2 r.1 n)) fun w => pu (w, r.2)
 | .sub e i, H => bnd (rE c ρ e H) fun r => bnd (rE c ρ i r.2) fun k => bnd (rAt k.2 r.1 k.1) fun w => pu (w, k.2)
 | .bin o l r, H => bnd (rE c ρ l H) fun a => bnd (rE c ρ r a.2) fun b => rBi o a.1 b.1 b.2
 | .cmp o l r, H => bnd (rE c ρ l H) fun a => bnd (rE c ρ r a.2) fun b => bnd (rCm b.2 o a.1 b.1) fun t => pu (.bool t, b.2)
 | .inC neg e l, H => bnd (rE c ρ e H) fun r => rN r.1 fun s => if l.length ≤ 100 then pu (.bool (neg.xor (decide (s ∈ l))), r.2) else fail
 | .not e, H => bnd (rE c ρ e H) fun r => rT r.1 (pu (.bool false, r.2)) (pu (.bool true, r.2))
 | .and a b, H => bnd (rE c ρ a H) fun r => rT r.1 (rE c ρ b r.2) (pu (.bool false, r.2))
 | .or a b, H => bnd (rE c ρ a H) fun r => rT r.1 (pu (.bool true, r.2)) (rE c ρ b r.2)
 | .ite t b o, H => bnd (rE c ρ t H) fun r => rT r.1 (rE c ρ b r.2) (rE c ρ o r.2)
 | .call f as, H => bnd (rE c ρ f H) fun f => bnd (rEs c ρ as f.2) fun vs => ask (c f.1 vs.1 vs.2)
 | .meth o n as, H => bnd (rE c ρ o H) fun ov => bnd (askM (methOf ov.2 ov.1 n)) fun m => bnd (rEs c ρ as ov.2) fun vs => if vs.1.length ≤ 20 then ask (methV c m ov.1 n vs.1 vs.2) else fail
 | .pair a b, H => bnd (rE c ρ a H) fun a => bnd (rE c ρ b a.2) fun b => pu (.pair a.1 b.1, b.2)
 | .list es, H => bnd (rEs c ρ es H) fun vs => if vs.1.length ≤ 100 then pu (.obj vs.2.length, vs.2 ++ [.list vs.1]) else fail
 | .dict kvs, H => bnd (rEs c ρ kvs H) fun vs => if vs.1.length ≤ 15 then ofO (dispV vs.1) fun o => pu (.obj vs.2.length, vs.2 ++ [o]) else fail
 | _, _ => fail
noncomputable def rEs (c : CF) (ρ : Loc) : X → MH → Rn (List V × MH)
 | .nil, H => pu ([], H)
 | .cons e r, H => bnd (rE c ρ e H) fun v => bnd (rEs c ρ r v.2) fun vs => pu (v.1 :: vs.1, vs.2)
 | _, _ => fail
end
theorem not_s {v : V} {H : MH} : Snd (rT v (pu (V.bool false, H)) (pu (V.bool true, H))) fun Q => wB v fun b => Q (.bool (!b), H) := by
 cases v with
 | bool b => cases b <;> exact pu_s
 | _ => exact fail_s
mutual
theorem rE_s {c : CF} {ρ : Loc} : ∀ (e : X) (H : MH), Snd (rE c ρ e H) fun Q => wE c ρ e H fun v H => Q (v, H)
 | .cnone, H => pu_s
 | .cbool b, H => pu_s
 | .cint i, H => pu_s
 | .cstr s, H => pu_s
 | .loc x, H => ofO_s fun _ => pu_s
 | .glob x, H => pu_s
 | .attr e n, H => bnd_s (rE_s e H) fun _ => bnd_s askV_s fun _ => pu_s
 | .sub e i, H => bnd_s (rE_s e H) fun r => bnd_s (rE_s i r.2) fun _ => bnd_s rAt_s fun _ => pu_s
 | .bin o l r, H => bnd_s (rE_s l H) fun a => bnd_s (rE_s r a.2) fun _ => rBi_s
 | .cmp o l r, H => bnd_s (rE_s l H) fun a => bnd_s (rE_s r a.2) fun _ => bnd_s rCm_s fun _ => pu_s
 | .cmp2 .., H => fail_s
 | .inC neg e l, H => bnd_s (rE_s e H) fun _ => rN_s fun _ => rIff_s pu_s
 | .not e, H => bnd_s (rE_s e H) fun _ => not_s
 | .and a b, H => bnd_s (rE_s a H) fun r => rT_s (rE_s b r.2) pu_s
 | .or a b, H => bnd_s (rE_s a H) fun r => rT_s pu_s (rE_s b r.2)
 | .ite t b o, H => bnd_s (rE_s t H) fun r => rT_s (rE_s b r.2) (rE_s o r.2)
 | .call f as, H => bnd_s (rE_s f H) fun f => bnd_s (rEs_s as f.2) fun _ => askC_s
 | .meth o n as, H => bnd_s (rE_s o H) fun ov => bnd_s askM_s fun _ => bnd_s (rEs_s as ov.2) fun _ => rIff_s askC_s
 | .pair a b, H => bnd_s (rE_s a H) fun a => bnd_s (rE_s b a.2) fun _ => pu_s
 | .list es, H => bnd_s (rEs_s es H) fun _ => rIff_s pu_s
 | .dict kvs, H => bnd_s (rEs_s kvs H) fun _ => rIff_s (ofO_s fun _ => pu_s)
 | .comp .., H => fail_s
 | .range _, H => fail_s
 | .reversed _, H => fail_s
 | .nil, H => fail_s
 | .cons _ _, H => fail_s
theorem rEs_s {c : CF} {ρ : Loc} : ∀ (e : X) (H : MH), Snd (rEs c ρ e H) fun Q => wEs c ρ e H fun vs H => Q (vs, H)
 | .nil, H => pu_s
 | .cons e r, H => bnd_s (rE_s e H) fun v => bnd_s (rEs_s r v.2) fun _ => pu_s
 | .cnone, _ => fail_s
 | .cbool _, _ => fail_s
 | .cint _, _ => fail_s
 | .cstr _, _ => fail_s
 | .loc _, _ => fail_s
 | .glob _, _ => fail_s
 | .attr _ _, _ => fail_s
 | .sub _ _, _ => fail_s
 | .bin _ _ _, _ => fail_s
 | .cmp _ _ _, _ => fail_s
 | .cmp2 .., _ => fail_s
 | .inC .., _ => fail_s
 | .not _, _ => fail_s
 | .and _ _, _ => fail_s
 | .or _ _, _ => fail_s
 | .ite .., _ => fail_s
 | .call _ _, _ => fail_s
 | .meth .., _ => fail_s
 | .pair _ _, _ => fail_s
 | .list _, _ => fail_s
 | .dict _, _ => fail_s
 | .comp .., _ => fail_s
 | .range _, _ => fail_s
 | .reversed _, _ => fail_s
end
noncomputable abbrev Fr3 : Type := Fl × Loc × MH
noncomputable def rNx (q : Fr3) (f : Loc → MH → Rn Fr3) : Rn Fr3 := match q.1 with
 | .next => f q.2.1 q.2.2
 | _ => pu q
noncomputable def rP2 (v : V) (f : V → V → Rn Fr3) : Rn Fr3 := match v with
 | .pair a b => f a b
 | _ => fail
noncomputable def rS (c : CF) : S → Loc → MH → Rn Fr3
 | .nil, ρ, H => pu (.next, ρ, H)
 | .seq s r, ρ, H => bnd (rS c s ρ H) fun q => rNx q (rS c r)
 | .expr e, ρ, H => bnd (rE c ρ e H) fun v => pu (.next, ρ, v.2)
 | .asg x e, ρ, H => bnd (rE c ρ e H) fun v => pu (.next, put x v.1 ρ, v.2)
 | .asg2 x y e, ρ, H => bnd (rE c ρ e H) fun v => rP2 v.1 fun a b => pu (.next, put y b (put x a ρ), v.2)
 | .asgAttr o n e, ρ, H => bnd (rE c ρ e H) fun v => bnd (rE c ρ o v.2) fun ov => bnd (askH (setAttrV ov.2 ov.1 n v.1)) fun H => pu (.next, ρ, H)
 | .asgSub o i e, ρ, H => bnd (rE c ρ e H) fun v => bnd (rE c ρ o v.2) fun ov => bnd (rE c ρ i ov.2) fun k => bnd (askH (setSubV k.2 ov.1 k.1 v.1)) fun H => pu (.next, ρ, H)
 | .augLoc x op e, ρ, H => ofO (get x ρ) fun v => rI v fun a => bnd (rE c ρ e H) fun w => rI w.1 fun b => ofO (augV op a b) fun d => pu (.next, put x (.int d) ρ, w.2)
 | .augAttr o n op e, ρ, H => bnd (rE c ρ o H) fun ov => bnd (askV (attrOf ov.2 ov.1 n)) fun v => rI v fun a => bnd (rE c ρ e ov.2) fun w => rI w.1 fun b => ofO (augV op a b) fun d => bnd (askH (setAttrV w.2 ov.1 n (.int d))) fun H => pu (.next, ρ, H)
 | .ifs t b o, ρ, H => bnd (rE c ρ t H) fun r => rT r.1 (rS c b ρ r.2) (rS c o ρ r.2)
 | .ret e, ρ, H => bnd (rE c ρ e H) fun r => pu (.ret r.1, ρ, r.2)
 | .brk, ρ, H => pu (.brk, ρ, H)
 | _, _, _ => fail
theorem rNx_s {q : Fr3} {f : Loc → MH → Rn Fr3} {U : Loc → MH → (Fr3 → Prop) → Prop} (hf : ∀ ρ H, Snd (f ρ H) (U ρ H)) : Snd (rNx q f) fun Q => match q.1 with
  | .next => U q.2.1 q.2.2 Q
  | .brk => Q (.brk, q.2.1, q.2.2)
  | .ret v => Q (.ret v, q.2.1, q.2.2) := by
 obtain ⟨fl, ρ, H⟩ := q
 cases fl with
 | next => exact hf ρ H
 | brk => exact pu_s
 | ret v => exact pu_s
theorem rP2_s {v : V} {x y : Nm} {ρ : Loc} {H : MH} : Snd (rP2 v fun a b => pu (.next, put y b (put x a ρ), H)) fun Q => match v with
  | .pair a b => Q (.next, put y b (put x a ρ), H)
  | v => W2 (i2 H v fun a b => some (a, b)) fun a b => Q (.next, put y b (put x a ρ), H) := by
 cases v with
 | pair a b => exact pu_s
 | _ => exact fail_s
theorem rS_s {c : CF} : ∀ (s : S) (ρ : Loc) (H : MH), Snd (rS c s ρ H) fun Q => wS c s ρ H fun fl ρ H => Q (fl, ρ, H)
 | .nil, ρ, H => pu_s
 | .seq s r, ρ, H => bnd_s (rS_s s ρ H) fun q => rNx_s fun ρ H => rS_s r ρ H
 | .expr e, ρ, H => bnd_s (rE_s e H) fun _ => pu_s
 | .asg x e, ρ, H => bnd_s (rE_s e H) fun _ => pu_s
 | .asg2 x y e, ρ, H => bnd_s (rE_s e H) fun _ => rP2_s
 | .asgAttr o n e, ρ, H => bnd_s (rE_s e H) fun v => bnd_s (rE_s o v.2) fun _ => bnd_s askH_s fun _ => pu_s
 | .asgSub o i e, ρ, H => bnd_s (rE_s e H) fun v => bnd_s (rE_s o v.2) fun ov => bnd_s (rE_s i ov.2) fun _ => bnd_s askH_s fun _ => pu_s
 | .augLoc x op e, ρ, H => ofO_s fun v => rI_s fun a => bnd_s (rE_s e H) fun w => rI_s fun b => ofO_s fun _ => pu_s
 | .augAttr o n op e, ρ, H => bnd_s (rE_s o H) fun ov => bnd_s askV_s fun v => rI_s fun a => bnd_s (rE_s e ov.2) fun w => rI_s fun b => ofO_s fun _ => bnd_s askH_s fun _ => pu_s
 | .augSub .., ρ, H => fail_s
 | .ifs t b o, ρ, H => bnd_s (rE_s t H) fun r => rT_s (rS_s b ρ r.2) (rS_s o ρ r.2)
 | .ret e, ρ, H => bnd_s (rE_s e H) fun _ => pu_s
 | .brk, ρ, H => pu_s
 | .whl .., ρ, H => fail_s
 | .forIn .., ρ, H => fail_s
 | .forIn2 .., ρ, H => fail_s
noncomputable def rK (c : CF) : Nat → S → Loc → MH → Rn Fr3
 | k + 1, .seq s r, ρ, H => bnd (rS c s ρ H) fun q => rNx q (rK c k r)
 | _, _, ρ, H => pu (.next, ρ, H)
noncomputable def wEnd (c : CF) (s : S) (Q : Fl → Loc → MH → Prop) : Fr3 → Prop := fun q => match q.1 with
 | .next => wS c s q.2.1 q.2.2 Q
 | .brk => Q .brk q.2.1 q.2.2
 | .ret v => Q (.ret v) q.2.1 q.2.2
theorem rK_0 {c : CF} {s : S} {ρ : Loc} {H : MH} {Q : Fl → Loc → MH → Prop} {fs y fs' p} (h : pu (Fl.next, ρ, H) fs = some (y, fs', p)) (w : wEnd c s Q y) : wS c s ρ H Q := by
 cases h; exact w
theorem rK_s {c : CF} {Q : Fl → Loc → MH → Prop} : ∀ (k : Nat) (s : S) (ρ : Loc) (H : MH) fs y fs' p, rK c k s ρ H fs = some (y, fs', p) → Ok p → wEnd c (drp k s) Q y → wS c s ρ H Q
 | 0, s, ρ, H, fs, y, fs', p, h, _, w => rK_0 h w
 | k + 1, s, ρ, H, fs, y, fs', p, h, ok, w => by
  cases s with
  | seq s r =>
   refine hide fun Ψ kΨ => ?_
   obtain ⟨⟨⟨fl, ρ1, H1⟩, fs1, p1⟩, e1, h⟩ := o1_inv h
   obtain ⟨z, e2, h⟩ := o1_inv h
   refine kΨ ?_
   cases h
   refine rS_s s ρ H _ _ _ _ e1 ok.app.1 (fun q => match q.1 with
    | .next => wS c r q.2.1 q.2.2 Q
    | .brk => Q .brk q.2.1 q.2.2
    | .ret v => Q (.ret v) q.2.1 q.2.2) ?_
   cases fl with
   | next => exact rK_s k r _ _ _ _ _ _ e2 ok.app.2 w
   | brk => cases e2; exact w
   | ret v => cases e2; exact w
  | _ => exact rK_0 h w
noncomputable def sg1 (r : Option (Fr3 × List Ft × List (Aw × Aw))) : Option (Fr3 × List Aw) := o1 r fun x => some (x.1, x.2.2.map (·.1))
noncomputable def sg2 (r : Option (Fr3 × List Ft × List (Aw × Aw))) (y : Fr3) : Option (Fr3 × List Aw) := match r with
 | some x => some (y, x.2.2.map (·.2))
 | none => some (y, [])
noncomputable def ret1 (r : Option (Fr3 × List Ft × List (Aw × Aw))) : Option (V × MH × List Aw) := o1 r fun x => o1 (en (some x.1)) fun y => some (y.1, y.2, x.2.2.map (·.1))
noncomputable def ret2 (r : Option (Fr3 × List Ft × List (Aw × Aw))) (v : V) (H : MH) : Option (V × MH × List Aw) := match r with
 | some x => some (v, H, x.2.2.map (·.2))
 | none => some (v, H, [])
section
variable {c : CF} {s : S} {ρ : Loc} {H : MH}
theorem w_seg (k : Nat) (fs : List Ft) {y : Fr3} {Q : Fl → Loc → MH → Prop} (h : sg1 (rK c k s ρ H fs) = sg2 (rK c k s ρ H fs) y) (w : wEnd c (drp k s) Q y) : wS c s ρ H Q := by
 cases e : rK c k s ρ H fs with
 | none => rw [e] at h; cases h
 | some x =>
  rw [e] at h
  have h := Option.some.inj h
  exact rK_s k s ρ H fs x.1 x.2.1 x.2.2 e (Prod.mk.inj h).2 ((Prod.mk.inj h).1 ▸ w)
theorem w_ret (fs : List Ft) {v : V} {H' : MH} {P : V → MH → Prop} (h : ret1 (rK c 100 s ρ H fs) = ret2 (rK c 100 s ρ H fs) v H') (n : drp 100 s = .nil) (w : P v H') : wS c s ρ H (endQ P) := by
 cases e : rK c 100 s ρ H fs with
 | none => rw [e] at h; cases h
 | some x =>
  rw [e] at h
  refine hide fun Ψ kΨ => ?_
  obtain ⟨⟨fl, ρ1, H1⟩, fs1, p1⟩ := x
  refine kΨ ?_
  have ok : ∀ {v1 H2}, some (v1, H2, p1.map (·.1)) = some (v, H', p1.map (·.2)) → Ok p1 ∧ v1 = v ∧ H2 = H' := fun h => have h := Prod.mk.inj (Option.some.inj h); ⟨(Prod.mk.inj h.2).2, h.1, (Prod.mk.inj h.2).1⟩
  cases fl with
  | next =>
   refine hide fun Ψ kΨ => ?_
   obtain ⟨a, rfl, rfl⟩ := ok h
   refine kΨ ?_
   refine rK_s 100 s ρ H fs _ _ _ e a ?_
   rw [n]; exact w
  | brk => cases h
  | ret u =>
   refine hide fun Ψ kΨ => ?_
   obtain ⟨a, rfl, rfl⟩ := ok h
   refine kΨ ?_
   exact rK_s 100 s ρ H fs _ _ _ e a w
end
theorem cl_s {n : Nat} {f : Nm} {fn : Fn} {as : List V} {H H' : MH} {v : V} {ρ : Loc} (fs : List Ft) (h : ret1 (rK (cf n) 100 fn.body ρ H fs) = ret2 (rK (cf n) 100 fn.body ρ H fs) v H') (h1 : isBi f = false) (h2 : fnTab f = some fn) (hb : bindP fn as = some ρ) (d : drp 100 fn.body = .nil) : cf (n + 1) (.g f) as H = some (v, H') :=
 cl_eq h1 h2 hb (w_ret fs h d ⟨rfl, rfl⟩)
inductive IsVar (H : MH) (a : Nat) (k : Int) : Prop where
 | mk (pl : Int) (ty : V) (ty' : V) (kl : Nat) (v : Nat) (s : Bool) (nm : Nm) (h1 : H[a]? = some (nodeO .k_var pl ty kl (.obj v) s)) (h2 : H[v]? = some (objO nm ty' k)) (h3 : H[kl]? = some (.list [])) : IsVar H a k
noncomputable def IsInt (H : MH) (t : Nat) : Prop := ∃ len, IsTy H t .k_integer len
inductive IsConst (H : MH) (a : Nat) (c : Int) : Prop where
 | mk (pl : Int) (t : Nat) (kl : Nat) (s : Bool) (h1 : IsInt H t) (h2 : H[a]? = some (nodeO .k_const pl (.obj t) kl (.int c) s)) (h3 : H[kl]? = some (.list [])) : IsConst H a c
noncomputable def StAt (H : MH) (st sl w : Nat) (m : Bool) (l : Int) (D : List (Int × V)) : Prop := H[st]? = some (stO sl w m l) ∧ H[sl]? = some (.idict D)
inductive IsRel (H : MH) (a : Nat) (op : Nm) (k c : Int) : Prop where
 | mk (pl : Int) (ty : V) (kl : Nat) (val : V) (s : Bool) (x : Nat) (y : Nat) (h1 : H[a]? = some (nodeO op pl ty kl val s)) (h2 : isRel op = true) (h3 : H[kl]? = some (.list [.obj x, .obj y])) (h4 : IsVar H x k) (h5 : IsConst H y c) : IsRel H a op k c
section
variable {H H' : MH} (p : H <+: H') {a : Nat} {k c : Int}
include p
theorem IsVar.pre (h : IsVar H a k) : IsVar H' a k := by
 refine hide fun Ψ kΨ => ?_
 obtain ⟨pl, ty, ty', kl, v, s, nm, h1, h2, h3⟩ := h
 refine kΨ ?_
 exact ⟨pl, ty, ty', kl, v, s, nm, p_get p h1, p_get p h2, p_get p h3⟩
theorem IsTy.pre {form : Nm} {len : Int} (h : IsTy H a form len) : IsTy H' a form len := by
 refine hide fun Ψ kΨ => ?_
 obtain ⟨num, size, base, fl, pl, hl, h⟩ := h
 refine kΨ ?_
 exact ⟨num, size, base, fl, pl, hl, p_get p h⟩
theorem IsInt.pre (h : IsInt H a) : IsInt H' a := h.imp fun _ h => h.pre p
theorem IsConst.pre (h : IsConst H a k) : IsConst H' a k := by
 refine hide fun Ψ kΨ => ?_
 obtain ⟨pl, t, kl, s, h1, h2, h3⟩ := h
 refine kΨ ?_
 exact ⟨pl, t, kl, s, h1.pre p, p_get p h2, p_get p h3⟩
theorem StAt.pre {st sl w : Nat} {m : Bool} {l : Int} {D : List (Int × V)} (h : StAt H st sl w m l D) : StAt H' st sl w m l D := ⟨p_get p h.1, p_get p h.2⟩
theorem IsRel.pre {op : Nm} (h : IsRel H a op k c) : IsRel H' a op k c := by
 refine hide fun Ψ kΨ => ?_
 obtain ⟨pl, ty, kl, val, s, x, y, h1, h2, h3, h4, h5⟩ := h
 refine kΨ ?_
 exact ⟨pl, ty, kl, val, s, x, y, p_get p h1, h2, p_get p h3, h4.pre p, h5.pre p⟩
end
noncomputable def OE (H : MH) : V → Option (List (Int × V)) → Prop
 | v, none => v = .none
 | v, some E => ∃ e, v = .obj e ∧ H[e]? = some (.idict E)
theorem OE.pre {H H' : MH} (p : H <+: H') {v : V} {o : Option (List (Int × V))} (h : OE H v o) : OE H' v o := by
 cases o with
 | none => exact h
 | some E => obtain ⟨e, h1, h2⟩ := h; exact ⟨e, h1, p_get p h2⟩
noncomputable def meetE (k : Int) (p : IV) (E : List (Int × V)) (q : IV × IV) : Option (List (Int × V)) := (meetI p q.1).map fun r => put k (iv r) E
noncomputable def relE (op : Nm) (k c : Int) (p : IV) (E : List (Int × V)) : Option (List (Int × V)) := (narrowI op p (c, c)).bind (meetE k p E)
theorem c_qvar (n : Nat) (H : MH) {st sl w e a : Nat} {m : Bool} {l k : Int} {D E : List (Int × V)} {x y : V} (hs : StAt H st sl w m l D) (hx : IsVar H a k) (hg : get k D = some x) (he : H[e]? = some (.idict E)) (hy : get k E = some y) (h0 : 0 ≤ k) : cf (n + 3) (.g .k_quiet) [.obj st, .obj e, .obj a] H = some (y, H) := by
 refine hide fun Ψ kΨ => ?_
 obtain ⟨pl, ty, ty', kl, v, s, nm, h1, h2, h3⟩ := hx
 refine kΨ ?_
 refine c_quiet _ _ hs.1 ?_
 exact c_look_var n _ (set_same hs.1) (set_keep hs.1 h1 rfl rfl) (set_keep hs.1 h2 rfl rfl) (set_keep hs.1 hs.2 rfl rfl) hg (set_keep hs.1 he rfl rfl) hy h0
theorem c_qconst (n : Nat) (H : MH) {st sl w a : Nat} {m : Bool} {l c : Int} {D : List (Int × V)} {env : V} (hs : StAt H st sl w m l D) (hx : IsConst H a c) : cf (n + 4) (.g .k_quiet) [.obj st, env, .obj a] H = some (iv (c, c), H) := by
 refine hide fun Ψ kΨ => ?_
 obtain ⟨pl, t, kl, s, ⟨len, num, size, base, fl, pl', hl, h1⟩, h2, h3⟩ := hx
 refine kΨ ?_
 refine c_quiet _ _ hs.1 ?_
 exact c_look_const n _ ⟨num, size, base, fl, pl', hl, set_keep hs.1 h1 rfl rfl⟩ (set_keep hs.1 h2 rfl rfl)
theorem fs_var (n : Nat) (H : MH) {st sl w a : Nat} {m : Bool} {l k : Int} {D : List (Int × V)} {x : V} (hs : StAt H st sl w m l D) (hx : IsVar H a k) (hg : get k D = some x) : cf (n + 1) (.g .k_followed_slot) [.obj st, .obj a] H = some (.int k, H) := by
 refine hide fun Ψ kΨ => ?_
 obtain ⟨pl, ty, ty', kl, v, s, nm, h1, h2, h3⟩ := hx
 refine kΨ ?_
 exact c_fs_var n H hs.1 h1 h2 hs.2 hg
theorem fs_const (n : Nat) (H : MH) {st a : Nat} {c : Int} (hx : IsConst H a c) : cf (n + 1) (.g .k_followed_slot) [.obj st, .obj a] H = some (.int (-1), H) := by
 refine hide fun Ψ kΨ => ?_
 obtain ⟨pl, t, kl, s, h1, h2, h3⟩ := hx
 refine kΨ ?_
 exact c_fs_not n H h2 (by decide)
theorem c_rel_tail (n : Nat) {H0 H : MH} (pr : H0 <+: H) {st sl w e a kl xa ya : Nat} {m : Bool} {l k c pl : Int} {op : Nm} {ty val tv : V} {s : Bool} {D E : List (Int × V)} {x : V} {p : IV} (hs : StAt H st sl w m l D) (h1 : H[a]? = some (nodeO op pl ty kl val s)) (h3 : H[kl]? = some (.list [.obj xa, .obj ya])) (h4 : IsVar H xa k) (h5 : IsConst H ya c) (hg : get k D = some x) (he : H[e]? = some (.idict E)) (hy : get k E = some (iv p)) (h0 : 0 ≤ k) (hl : E.length < 100000) (N : Option (IV × IV)) :
  wS (cf (n + 4)) (drp 5 F_k_assume_relation.1.body) [(.k_st, .obj st), (.k_env, .obj e), (.k_node, .obj a), (.k_truth, tv), (.k_left, .obj xa), (.k_right, .obj ya), (.k_x, iv p), (.k_y, iv (c, c)), (.k_parts, oiv2 N)] H (endQ fun v H' => H0 <+: H' ∧ OE H' v (N.bind (meetE k p E))) := by
 cases N with
 | none => exact ⟨pr, rfl⟩
 | some q =>
  obtain ⟨q1, q2⟩ := q
  have f1 := fs_var (n + 3) H hs h4 hg
  have e3 := c_meet (n + 2) H p q1
  show wS _ _ _ _ (endQ fun v H' => H0 <+: H' ∧ OE H' v ((meetI p q1).map fun r => put k (iv r) E))
  generalize meetI p q1 = M at e3 ⊢
  cases M with
  | none =>
   apply wl_range
   (repeat (first | exact ⟨rfl, rfl⟩ | (apply WO.s; (· (first | assumption | (apply attr_s; (· (repeat (first | assumption | exact app_new _ _ | apply app_get))); (· rfl)) | (apply sub_l; (· (repeat (first | assumption | exact app_new _ _ | apply app_get))); (· (first | rfl | assumption))) | (apply sub_d; (· (repeat (first | assumption | exact app_new _ _ | apply app_get))); (· (first | rfl | assumption))) | (apply sub_s; (· (repeat (first | assumption | exact app_new _ _ | apply app_get))); (· (first | rfl | assumption))) | (apply in_t; (· (repeat (first | assumption | exact app_new _ _ | apply app_get))); (· (first | rfl | assumption))) | (apply in_f; (· (repeat (first | assumption | exact app_new _ _ | apply app_get))); (· (first | rfl | assumption))) | (apply set_attr; (· (repeat (first | assumption | exact app_new _ _ | apply app_get))); (· rfl)) | (apply set_sub; (· (repeat (first | assumption | exact app_new _ _ | apply app_get))); (· assumption))))) | (apply W2.s; (· first | assumption | exact i2_l (by (repeat (first | assumption | exact app_new _ _ | apply app_get))))) | (apply wIf_dt; (· first | assumption | omega)) | (apply wIf_df; (· first | assumption | omega))))
   exact ⟨pr, rfl⟩
  | some r =>
   have e4 := c_with_slot (n + 2) H (k := k) (v := iv r) he hl
   have pA := pre_app H [.idict (put k (iv r) E)]
   have e5 := fs_const (n + 3) _ (st := st) (h5.pre pA)
   apply wl_range
   (repeat (first | exact ⟨rfl, rfl⟩ | (apply WO.s; (· (first | assumption | (apply attr_s; (· (repeat (first | assumption | exact app_new _ _ | apply app_get))); (· rfl)) | (apply sub_l; (· (repeat (first | assumption | exact app_new _ _ | apply app_get))); (· (first | rfl | assumption))) | (apply sub_d; (· (repeat (first | assumption | exact app_new _ _ | apply app_get))); (· (first | rfl | assumption))) | (apply sub_s; (· (repeat (first | assumption | exact app_new _ _ | apply app_get))); (· (first | rfl | assumption))) | (apply in_t; (· (repeat (first | assumption | exact app_new _ _ | apply app_get))); (· (first | rfl | assumption))) | (apply in_f; (· (repeat (first | assumption | exact app_new _ _ | apply app_get))); (· (first | rfl | assumption))) | (apply set_attr; (· (repeat (first | assumption | exact app_new _ _ | apply app_get))); (· rfl)) | (apply set_sub; (· (repeat (first | assumption | exact app_new _ _ | apply app_get))); (· assumption))))) | (apply W2.s; (· first | assumption | exact i2_l (by (repeat (first | assumption | exact app_new _ _ | apply app_get))))) | (apply wIf_dt; (· first | assumption | omega)) | (apply wIf_df; (· first | assumption | omega))))
   exact ⟨pr.trans pA, _, rfl, app_new _ _⟩
theorem c_rel (n : Nat) (H : MH) {st sl w e a : Nat} {m : Bool} {l k c : Int} {op : Nm} {D E : List (Int × V)} {x : V} {p : IV} (t : Bool) (hs : StAt H st sl w m l D) (ha : IsRel H a op k c) (hg : get k D = some x) (he : H[e]? = some (.idict E)) (hy : get k E = some (iv p)) (h0 : 0 ≤ k) (hl : E.length < 100000) :
  ∃ v H', cf (n + 5) (.g .k_assume_relation) [.obj st, .obj e, .obj a, .bool t] H = some (v, H') ∧ H <+: H' ∧ OE H' v (relE (if t then op else oppN op) k c p E) := by
 obtain ⟨pl, ty, kl, val, s, xa, ya, h1, h2, h3, h4, h5⟩ := ha
 have q1 := c_qvar (n + 1) H hs h4 hg he hy h0
 have q2 := c_qconst n H (env := .obj e) hs h5
 cases t with
 | true =>
  refine cl_run (ρ := [(.k_st, .obj st), (.k_env, .obj e), (.k_node, .obj a), (.k_truth, .bool true)]) rfl rfl rfl ?_
  apply WO.s
  ·(first | assumption | (apply attr_s; (· (repeat (first | assumption | exact app_new _ _ | apply app_get))); (· rfl)) | (apply sub_l; (· (repeat (first | assumption | exact app_new _ _ | apply app_get))); (· (first | rfl | assumption))) | (apply sub_d; (· (repeat (first | assumption | exact app_new _ _ | apply app_get))); (· (first | rfl | assumption))) | (apply sub_s; (· (repeat (first | assumption | exact app_new _ _ | apply app_get))); (· (first | rfl | assumption))) | (apply in_t; (· (repeat (first | assumption | exact app_new _ _ | apply app_get))); (· (first | rfl | assumption))) | (apply in_f; (· (repeat (first | assumption | exact app_new _ _ | apply app_get))); (· (first | rfl | assumption))) | (apply set_attr; (· (repeat (first | assumption | exact app_new _ _ | apply app_get))); (· rfl)) | (apply set_sub; (· (repeat (first | assumption | exact app_new _ _ | apply app_get))); (· assumption)))
  apply W2.s
  ·exact i2_l h3
  apply W2.s q1
  apply W2.s q2
  apply WO.s
  ·(first | assumption | (apply attr_s; (· (repeat (first | assumption | exact app_new _ _ | apply app_get))); (· rfl)) | (apply sub_l; (· (repeat (first | assumption | exact app_new _ _ | apply app_get))); (· (first | rfl | assumption))) | (apply sub_d; (· (repeat (first | assumption | exact app_new _ _ | apply app_get))); (· (first | rfl | assumption))) | (apply sub_s; (· (repeat (first | assumption | exact app_new _ _ | apply app_get))); (· (first | rfl | assumption))) | (apply in_t; (· (repeat (first | assumption | exact app_new _ _ | apply app_get))); (· (first | rfl | assumption))) | (apply in_f; (· (repeat (first | assumption | exact app_new _ _ | apply app_get))); (· (first | rfl | assumption))) | (apply set_attr; (· (repeat (first | assumption | exact app_new _ _ | apply app_get))); (· rfl)) | (apply set_sub; (· (repeat (first | assumption | exact app_new _ _ | apply app_get))); (· assumption)))
  apply W2.s (c_narrow n H p (c, c) h2)
  exact c_rel_tail n (List.prefix_refl _) hs h1 h3 h4 h5 hg he hy h0 hl _
 | false =>
  have pr := pre_app H [.sdict oppD]
  refine cl_run (ρ := [(.k_st, .obj st), (.k_env, .obj e), (.k_node, .obj a), (.k_truth, .bool false)]) rfl rfl rfl ?_
  apply WO.s
  ·(first | assumption | (apply attr_s; (· (repeat (first | assumption | exact app_new _ _ | apply app_get))); (· rfl)) | (apply sub_l; (· (repeat (first | assumption | exact app_new _ _ | apply app_get))); (· (first | rfl | assumption))) | (apply sub_d; (· (repeat (first | assumption | exact app_new _ _ | apply app_get))); (· (first | rfl | assumption))) | (apply sub_s; (· (repeat (first | assumption | exact app_new _ _ | apply app_get))); (· (first | rfl | assumption))) | (apply in_t; (· (repeat (first | assumption | exact app_new _ _ | apply app_get))); (· (first | rfl | assumption))) | (apply in_f; (· (repeat (first | assumption | exact app_new _ _ | apply app_get))); (· (first | rfl | assumption))) | (apply set_attr; (· (repeat (first | assumption | exact app_new _ _ | apply app_get))); (· rfl)) | (apply set_sub; (· (repeat (first | assumption | exact app_new _ _ | apply app_get))); (· assumption)))
  apply W2.s
  ·exact i2_l h3
  apply W2.s q1
  apply W2.s q2
  apply WO.s
  ·(first | assumption | (apply attr_s; (· (repeat (first | assumption | exact app_new _ _ | apply app_get))); (· rfl)) | (apply sub_l; (· (repeat (first | assumption | exact app_new _ _ | apply app_get))); (· (first | rfl | assumption))) | (apply sub_d; (· (repeat (first | assumption | exact app_new _ _ | apply app_get))); (· (first | rfl | assumption))) | (apply sub_s; (· (repeat (first | assumption | exact app_new _ _ | apply app_get))); (· (first | rfl | assumption))) | (apply in_t; (· (repeat (first | assumption | exact app_new _ _ | apply app_get))); (· (first | rfl | assumption))) | (apply in_f; (· (repeat (first | assumption | exact app_new _ _ | apply app_get))); (· (first | rfl | assumption))) | (apply set_attr; (· (repeat (first | assumption | exact app_new _ _ | apply app_get))); (· rfl)) | (apply set_sub; (· (repeat (first | assumption | exact app_new _ _ | apply app_get))); (· assumption)))
  apply W2.s (c_opposite (n + 3) H h2)
  apply W2.s (c_narrow n _ p (c, c) (rel_opp h2))
  exact c_rel_tail n pr (hs.pre pr) (p_get pr h1) (p_get pr h3) (h4.pre pr) (h5.pre pr) hg (p_get pr he) hy h0 hl _
noncomputable def dctL (n : Nat) (f : Nat → IV) : List (Int × V) := (List.range n).map fun (s : Nat) => ((s : Int), iv (f s))
noncomputable def upd (f : Nat → IV) (s : Nat) (x : IV) : Nat → IV := fun i => if i = s then x else f i
theorem dctL_succ (n : Nat) (f : Nat → IV) : dctL (n + 1) f = dctL n f ++ [((n : Int), iv (f n))] := by simp [dctL, List.range_succ]
theorem get_app {α β : Type} [DecidableEq α] (k : α) (l r : List (α × β)) : get k (l ++ r) = match get k l with | some v => some v | none => get k r := by
 induction l with
 | nil => rfl
 | cons p l ih =>
  obtain ⟨a, b⟩ := p
  simp only [List.cons_append, get]
  by_cases h : a = k
  ·simp [h]
  ·simp [h, ih]
theorem put_app {α β : Type} [DecidableEq α] (k : α) (v : β) (l r : List (α × β)) : put k v (l ++ r) = if (get k l).isSome then put k v l ++ r else l ++ put k v r := by
 induction l with
 | nil => simp [get]
 | cons p l ih =>
  obtain ⟨a, b⟩ := p
  simp only [List.cons_append, get, put]
  by_cases h : a = k
  ·simp [h]
  ·simp only [h, if_false, ih]
   by_cases h2 : (get k l).isSome <;> simp [h2]
theorem get_dctL_none {n s : Nat} (f : Nat → IV) (h : n ≤ s) : get (s : Int) (dctL n f) = none := by
 induction n with
 | zero => rfl
 | succ n ih =>
  rw [dctL_succ, get_app, ih (by omega)]
  simp only [get]
  rw [if_neg (by omega)]
theorem get_dctL {n s : Nat} (f : Nat → IV) (h : s < n) : get (s : Int) (dctL n f) = some (iv (f s)) := by
 induction n with
 | zero => omega
 | succ n ih =>
  rw [dctL_succ, get_app]
  by_cases h2 : s < n
  ·rw [ih h2]
  ·rw [get_dctL_none f (by omega)]
   have : s = n := by omega
   subst this
   simp only [get, if_true]
theorem put_dctL_new (n : Nat) (f : Nat → IV) : put (n : Int) (iv (f n)) (dctL n f) = dctL (n + 1) f := by
 have := put_app (n : Int) (iv (f n)) (dctL n f) []
 rw [get_dctL_none f (Nat.le_refl n)] at this
 simpa [put, dctL_succ] using this
theorem dctL_congr {n : Nat} {f g : Nat → IV} (h : ∀ i, i < n → f i = g i) : dctL n f = dctL n g := by
 refine List.map_congr_left fun s hs => ?_
 rw [h s (List.mem_range.mp hs)]
theorem put_dctL {n s : Nat} (f : Nat → IV) (x : IV) (h : s < n) : put (s : Int) (iv x) (dctL n f) = dctL n (upd f s x) := by
 induction n with
 | zero => omega
 | succ n ih =>
  rw [dctL_succ, put_app, dctL_succ]
  by_cases h2 : s < n
  ·rw [get_dctL f h2]
   simp only [Option.isSome_some, if_true]
   rw [ih h2, upd, if_neg (show ¬ n = s by omega)]
  ·have : s = n := by omega
   subst this
   rw [get_dctL_none f (Nat.le_refl _)]
   have hc : dctL s (upd f s x) = dctL s f := dctL_congr fun i hi => by rw [upd, if_neg (by omega)]
   simp [put, hc, upd]
theorem len_dctL (n : Nat) (f : Nat → IV) : (dctL n f).length = n := by simp [dctL]
noncomputable def keysV (n : Nat) : List V := (List.range n).map fun (s : Nat) => V.int (s : Int)
theorem keys_dctL (n : Nat) (f : Nat → IV) : (dctL n f).map (fun p => V.int p.1) = keysV n := by simp [dctL, keysV, Function.comp_def]
theorem keysV_get {n k : Nat} {v : V} (h : (keysV n)[k]? = some v) : k < n ∧ v = .int (k : Int) := by
 have hk : k < n := by
  rcases Nat.lt_or_ge k n with h1 | h1
  ·exact h1
  ·rw [List.getElem?_eq_none (by simpa [keysV] using h1)] at h; cases h
 refine ⟨hk, ?_⟩
 simp [keysV, hk] at h
 exact h.symm
theorem keysV_len (n : Nat) : (keysV n).length = n := by simp [keysV]
theorem c_join_envs (n : Nat) (H : MH) {a b N : Nat} {f g : Nat → IV} (ha : H[a]? = some (.idict (dctL N f))) (hb : H[b]? = some (.idict (dctL N g))) (hN : N ≤ 1000) : cf (n + 3) (.g .k_join_envs) [.obj a, .obj b] H = some (.obj H.length, H ++ [.idict (dctL N fun i => joinI (f i) (g i))]) := by
 refine cl_eq (ρ := [(.k_a, .obj a), (.k_b, .obj b)]) rfl rfl rfl ?_
 apply wl_in rfl
 refine ⟨keysV N, (items_d (app_get ha)).trans (congrArg some (keys_dctL _ _)), fun k ρ H' => ρ = [(.k_a, .obj a), (.k_b, .obj b), (.k_found, .obj H.length)] ∧ H' = H ++ [.idict (dctL k fun i => joinI (f i) (g i))], ⟨rfl, rfl⟩, ?_, ?_, ?_⟩
 ·rintro k _ _ ⟨rfl, rfl⟩
  exact okV_of (app_get ha) (app_get ha)
 ·rintro k v hv _ _ ⟨rfl, rfl⟩
  obtain ⟨hk, rfl⟩ := keysV_get hv
  have ga := get_dctL f hk
  have gb := get_dctL g hk
  have e1 := c_join n (H ++ [.idict (dctL k fun i => joinI (f i) (g i))]) (f k) (g k)
  have hl : (dctL k fun i => joinI (f i) (g i)).length < 100000 := by rw [len_dctL]; omega
  (repeat (first | exact ⟨rfl, rfl⟩ | (apply WO.s; (· (first | assumption | (apply attr_s; (· (repeat (first | assumption | exact app_new _ _ | apply app_get))); (· rfl)) | (apply sub_l; (· (repeat (first | assumption | exact app_new _ _ | apply app_get))); (· (first | rfl | assumption))) | (apply sub_d; (· (repeat (first | assumption | exact app_new _ _ | apply app_get))); (· (first | rfl | assumption))) | (apply sub_s; (· (repeat (first | assumption | exact app_new _ _ | apply app_get))); (· (first | rfl | assumption))) | (apply in_t; (· (repeat (first | assumption | exact app_new _ _ | apply app_get))); (· (first | rfl | assumption))) | (apply in_f; (· (repeat (first | assumption | exact app_new _ _ | apply app_get))); (· (first | rfl | assumption))) | (apply set_attr; (· (repeat (first | assumption | exact app_new _ _ | apply app_get))); (· rfl)) | (apply set_sub; (· (repeat (first | assumption | exact app_new _ _ | apply app_get))); (· assumption))))) | (apply W2.s; (· first | assumption | exact i2_l (by (repeat (first | assumption | exact app_new _ _ | apply app_get))))) | (apply wIf_dt; (· first | assumption | omega)) | (apply wIf_df; (· first | assumption | omega))))
  refine ⟨_, ?_, rfl, (app_set _ _ _).trans (congrArg (fun D => H ++ [.idict D]) (put_dctL_new k fun i => joinI (f i) (g i)))⟩
  ((repeat (apply Sub.cons; (· rfl))); exact Sub.nil)
 ·rintro _ _ ⟨rfl, rfl⟩
  exact ⟨rfl, by rw [keysV_len]⟩
theorem c_widen_env (n : Nat) (H : MH) {a b N : Nat} {f g : Nat → IV} (ha : H[a]? = some (.idict (dctL N f))) (hb : H[b]? = some (.idict (dctL N g))) (hN : N ≤ 1000) : cf (n + 3) (.g .k_widen_env) [.obj a, .obj b] H = some (.obj H.length, H ++ [.idict (dctL N fun i => widenI (f i) (g i))]) := by
 refine cl_eq (ρ := [(.k_older, .obj a), (.k_newer, .obj b)]) rfl rfl rfl ?_
 apply wl_in rfl
 refine ⟨keysV N, (items_d (app_get ha)).trans (congrArg some (keys_dctL _ _)), fun k ρ H' => ρ = [(.k_older, .obj a), (.k_newer, .obj b), (.k_found, .obj H.length)] ∧ H' = H ++ [.idict (dctL k fun i => widenI (f i) (g i))], ⟨rfl, rfl⟩, ?_, ?_, ?_⟩
 ·rintro k _ _ ⟨rfl, rfl⟩
  exact okV_of (app_get ha) (app_get ha)
 ·rintro k v hv _ _ ⟨rfl, rfl⟩
  obtain ⟨hk, rfl⟩ := keysV_get hv
  have ga := get_dctL f hk
  have gb := get_dctL g hk
  have e1 := c_widen (n + 1) (H ++ [.idict (dctL k fun i => widenI (f i) (g i))]) (f k) (g k)
  have hl : (dctL k fun i => widenI (f i) (g i)).length < 100000 := by rw [len_dctL]; omega
  (repeat (first | exact ⟨rfl, rfl⟩ | (apply WO.s; (· (first | assumption | (apply attr_s; (· (repeat (first | assumption | exact app_new _ _ | apply app_get))); (· rfl)) | (apply sub_l; (· (repeat (first | assumption | exact app_new _ _ | apply app_get))); (· (first | rfl | assumption))) | (apply sub_d; (· (repeat (first | assumption | exact app_new _ _ | apply app_get))); (· (first | rfl | assumption))) | (apply sub_s; (· (repeat (first | assumption | exact app_new _ _ | apply app_get))); (· (first | rfl | assumption))) | (apply in_t; (· (repeat (first | assumption | exact app_new _ _ | apply app_get))); (· (first | rfl | assumption))) | (apply in_f; (· (repeat (first | assumption | exact app_new _ _ | apply app_get))); (· (first | rfl | assumption))) | (apply set_attr; (· (repeat (first | assumption | exact app_new _ _ | apply app_get))); (· rfl)) | (apply set_sub; (· (repeat (first | assumption | exact app_new _ _ | apply app_get))); (· assumption))))) | (apply W2.s; (· first | assumption | exact i2_l (by (repeat (first | assumption | exact app_new _ _ | apply app_get))))) | (apply wIf_dt; (· first | assumption | omega)) | (apply wIf_df; (· first | assumption | omega))))
  refine ⟨_, ?_, rfl, (app_set _ _ _).trans (congrArg (fun D => H ++ [.idict D]) (put_dctL_new k fun i => widenI (f i) (g i)))⟩
  ((repeat (apply Sub.cons; (· rfl))); exact Sub.nil)
 ·rintro _ _ ⟨rfl, rfl⟩
  exact ⟨rfl, by rw [keysV_len]⟩
theorem c_join_none (n : Nat) (H : MH) {v : V} : cf (n + 1) (.g .k_join_envs) [.none, v] H = some (v, H) := cl_eq (ρ := [(.k_a, .none), (.k_b, v)]) rfl rfl rfl ⟨rfl, rfl⟩
theorem c_join_none2 (n : Nat) (H : MH) {e : Nat} : cf (n + 1) (.g .k_join_envs) [.obj e, .none] H = some (.obj e, H) := cl_eq (ρ := [(.k_a, .obj e), (.k_b, .none)]) rfl rfl rfl ⟨rfl, rfl⟩
noncomputable def withinN : Nat → (Nat → IV) → (Nat → IV) → Bool
 | 0, _, _ => true
 | n + 1, f, g => withinI (f 0) (g 0) && withinN n (fun i => f (i + 1)) (fun i => g (i + 1))
theorem withinN_iff : ∀ (n : Nat) (f g : Nat → IV), withinN n f g = true ↔ ∀ i, i < n → withinI (f i) (g i) = true
 | 0, f, g => by simp [withinN]
 | n + 1, f, g => by
  rw [withinN, Bool.and_eq_true, withinN_iff n]
  constructor
  ·rintro ⟨h1, h2⟩ i hi
   cases i with
   | zero => exact h1
   | succ i => exact h2 i (by omega)
  ·exact fun h => ⟨h 0 (by omega), fun i hi => h (i + 1) (by omega)⟩
theorem c_env_within (n : Nat) (H : MH) {a b N : Nat} {f g : Nat → IV} (ha : H[a]? = some (.idict (dctL N f))) (hb : H[b]? = some (.idict (dctL N g))) : cf (n + 2) (.g .k_env_within) [.obj a, .obj b] H = some (.bool (withinN N f g), H) := by
 refine cl_eq (ρ := [(.k_a, .obj a), (.k_b, .obj b)]) rfl rfl rfl ?_
 apply wl_in rfl
 refine ⟨keysV N, (items_d ha).trans (congrArg some (keys_dctL _ _)), fun k ρ H' => ρ = [(.k_a, .obj a), (.k_b, .obj b)] ∧ H = H' ∧ ∀ i, i < k → withinI (f i) (g i) = true, ⟨rfl, rfl, fun i hi => nomatch hi⟩, ?_, ?_, ?_⟩
 ·rintro k _ _ ⟨rfl, rfl, _⟩
  exact okV_of ha ha
 ·rintro k v hv _ _ ⟨rfl, rfl, i2⟩
  obtain ⟨hk, rfl⟩ := keysV_get hv
  have ga := get_dctL f hk
  have gb := get_dctL g hk
  have e1 := c_within n H (f k) (g k)
  (repeat (first | exact ⟨rfl, rfl⟩ | (apply WO.s; (· (first | assumption | (apply attr_s; (· (repeat (first | assumption | exact app_new _ _ | apply app_get))); (· rfl)) | (apply sub_l; (· (repeat (first | assumption | exact app_new _ _ | apply app_get))); (· (first | rfl | assumption))) | (apply sub_d; (· (repeat (first | assumption | exact app_new _ _ | apply app_get))); (· (first | rfl | assumption))) | (apply sub_s; (· (repeat (first | assumption | exact app_new _ _ | apply app_get))); (· (first | rfl | assumption))) | (apply in_t; (· (repeat (first | assumption | exact app_new _ _ | apply app_get))); (· (first | rfl | assumption))) | (apply in_f; (· (repeat (first | assumption | exact app_new _ _ | apply app_get))); (· (first | rfl | assumption))) | (apply set_attr; (· (repeat (first | assumption | exact app_new _ _ | apply app_get))); (· rfl)) | (apply set_sub; (· (repeat (first | assumption | exact app_new _ _ | apply app_get))); (· assumption))))) | (apply W2.s; (· first | assumption | exact i2_l (by (repeat (first | assumption | exact app_new _ _ | apply app_get))))) | (apply wIf_dt; (· first | assumption | omega)) | (apply wIf_df; (· first | assumption | omega))))
  show wIf (!withinI (f k) (g k)) _ _
  cases h : withinI (f k) (g k) with
  | true =>
   refine ⟨_, ?_, rfl, rfl, fun i hi => ?_⟩
   ·((repeat (apply Sub.cons; (· rfl))); exact Sub.nil)
   ·rcases Nat.lt_or_eq_of_le (Nat.lt_succ_iff.mp hi) with h3 | h3
    ·exact i2 i h3
    ·rw [h3]; exact h
  | false =>
   refine ⟨?_, rfl⟩
   have : withinN N f g ≠ true := fun hh => by
    have := (withinN_iff N f g).mp hh k hk
    rw [this] at h; cases h
   rw [Bool.eq_false_iff.mpr this]
 ·rintro _ _ ⟨rfl, rfl, i2⟩
  rw [keysV_len] at i2
  exact ⟨by rw [(withinN_iff N f g).mpr i2], rfl⟩
inductive CT where
 | leaf (op : Nm) (k : Nat) (c : Int)
 | bin (a : Bool) (l r : CT)
noncomputable def CT.depth : CT → Nat
 | .leaf .. => 0
 | .bin _ l r => max l.depth r.depth + 1
noncomputable def CT.slots (N : Nat) : CT → Prop
 | .leaf _ k _ => k < N
 | .bin _ l r => l.slots N ∧ r.slots N
noncomputable def RepC (H : MH) : CT → Nat → Prop
 | .leaf op k c, a => IsRel H a op k c
 | .bin b l r, a => ∃ pl ty kl val s x y, H[a]? = some (nodeO (if b then .k_amp else .k_OR) pl ty kl val s) ∧ H[kl]? = some (.list [.obj x, .obj y]) ∧ RepC H l x ∧ RepC H r y
theorem RepC.pre {H H' : MH} (p : H <+: H') : ∀ {T : CT} {a : Nat}, RepC H T a → RepC H' T a := by
 intro T
 induction T with
 | leaf op k c => exact fun h => IsRel.pre p h
 | bin q l r ihl ihr =>
  intro a h
  refine hide fun Ψ kΨ => ?_
  obtain ⟨pl, ty, kl, val, s, x, y, h1, h2, h3, h4⟩ := h
  refine kΨ ?_
  exact ⟨pl, ty, kl, val, s, x, y, p_get p h1, p_get p h2, ihl h3, ihr h4⟩
noncomputable def relF (op : Nm) (k : Nat) (c : Int) (f : Nat → IV) : Option (Nat → IV) := (narrowI op (f k) (c, c)).bind fun q => (meetI (f k) q.1).map fun r => upd f k r
noncomputable def joinO : Option (Nat → IV) → Option (Nat → IV) → Option (Nat → IV)
 | none, b => b
 | a, none => a
 | some f, some g => some fun i => joinI (f i) (g i)
noncomputable def bw : CT → (Nat → IV) → Option (Nat → IV) × Option (Nat → IV)
 | .leaf op k c, f => (relF op k c f, relF (oppN op) k c f)
 | .bin true l r, f => match (bw l f).1 with
  | none => (none, (bw l f).2)
  | some m => ((bw r m).1, joinO (bw l f).2 (bw r m).2)
 | .bin false l r, f => match (bw l f).2 with
  | none => ((bw l f).1, none)
  | some m => (joinO (bw l f).1 (bw r m).1, (bw r m).2)
noncomputable def OF (N : Nat) (H : MH) (v : V) (o : Option (Nat → IV)) : Prop := OE H v (o.map fun f => dctL N f)
theorem OF.pre {N : Nat} {H H' : MH} (p : H <+: H') {v : V} {o : Option (Nat → IV)} (h : OF N H v o) : OF N H' v o := OE.pre p h
theorem c_join_noneO (n : Nat) {H : MH} {v : V} {o : Option (List (Int × V))} (h : OE H v o) : cf (n + 1) (.g .k_join_envs) [v, .none] H = some (v, H) := by
 cases o with
 | none => cases h; exact c_join_none _ _
 | some E => obtain ⟨x, rfl, _⟩ := h; exact c_join_none2 _ _
theorem c_joinO (n N : Nat) (H : MH) {a b : V} {f g : Option (Nat → IV)} (ha : OF N H a f) (hb : OF N H b g) (hN : N ≤ 1000) : ∃ v H', cf (n + 3) (.g .k_join_envs) [a, b] H = some (v, H') ∧ H <+: H' ∧ OF N H' v (joinO f g) := by
 cases f with
 | none => cases ha; exact ⟨b, H, c_join_none _ _, List.prefix_refl _, by cases g <;> exact hb⟩
 | some f =>
  cases g with
  | none => cases hb; exact ⟨a, H, c_join_noneO _ ha, List.prefix_refl _, ha⟩
  | some g =>
   obtain ⟨x, rfl, hx⟩ := ha
   obtain ⟨y, rfl, hy⟩ := hb
   exact ⟨_, _, c_join_envs n H hx hy hN, pre_app _ _, _, rfl, app_new _ _⟩
theorem relE_dctL {op : Nm} {k N : Nat} {c : Int} {f : Nat → IV} (h : k < N) : relE op k c (f k) (dctL N f) = (relF op k c f).map fun f => dctL N f := by
 unfold relE relF
 cases narrowI op (f k) (c, c) with
 | none => rfl
 | some q =>
  show meetE k (f k) (dctL N f) q = ((meetI (f k) q.1).map fun r => upd f k r).map fun f => dctL N f
  unfold meetE
  cases meetI (f k) q.1 with
  | none => rfl
  | some r => exact congrArg some (put_dctL f r h)
theorem c_bw (N : Nat) (hN : N ≤ 1000) {st sl w : Nat} {m : Bool} {l : Int} {D : List (Int × V)} (hD : ∀ k, k < N → ∃ x, get (k : Int) D = some x) (T : CT) : ∀ (n : Nat) (H : MH) (e a : Nat) (f : Nat → IV), StAt H st sl w m l D → RepC H T a → T.slots N → H[e]? = some (.idict (dctL N f)) →
  ∃ v1 v2 H', cf (n + T.depth + 6) (.g .k_both_ways) [.obj st, .obj e, .obj a] H = some (.pair v1 v2, H') ∧ H <+: H' ∧ OF N H' v1 (bw T f).1 ∧ OF N H' v2 (bw T f).2 := by
 induction T with
 | leaf op k c =>
  intro n H e a f hs ha hk he
  refine hide fun Ψ kΨ => ?_
  obtain ⟨x, hx⟩ := hD k hk
  have hy := get_dctL f hk
  have hl : (dctL N f).length < 100000 := by rw [len_dctL]; omega
  obtain ⟨v1, H1, e1, p1, o1⟩ := c_rel n H true hs ha hx he hy (Int.natCast_nonneg k) hl
  obtain ⟨v2, H2, e2, p2, o2⟩ := c_rel n H1 false (hs.pre p1) (IsRel.pre p1 ha) hx (p_get p1 he) hy (Int.natCast_nonneg k) hl
  rw [relE_dctL hk] at o1 o2
  obtain ⟨pl, ty, kl, val, s, xa, ya, h1, h2, _⟩ := ha
  refine kΨ ?_
  have n1 := rel_ne (a := .k_const) h2 rfl
  have n2 := rel_ne (a := .k_not) h2 rfl
  refine ⟨v1, v2, H2, cl_eq (ρ := [(.k_st, .obj st), (.k_env, .obj e), (.k_node, .obj a)]) rfl rfl rfl ?_, p1.trans p2, OE.pre p2 o1, o2⟩
  (repeat (first | exact ⟨rfl, rfl⟩ | (apply WO.s; (· (first | assumption | (apply attr_s; (· (repeat (first | assumption | exact app_new _ _ | apply app_get))); (· rfl)) | (apply sub_l; (· (repeat (first | assumption | exact app_new _ _ | apply app_get))); (· (first | rfl | assumption))) | (apply sub_d; (· (repeat (first | assumption | exact app_new _ _ | apply app_get))); (· (first | rfl | assumption))) | (apply sub_s; (· (repeat (first | assumption | exact app_new _ _ | apply app_get))); (· (first | rfl | assumption))) | (apply in_t; (· (repeat (first | assumption | exact app_new _ _ | apply app_get))); (· (first | rfl | assumption))) | (apply in_f; (· (repeat (first | assumption | exact app_new _ _ | apply app_get))); (· (first | rfl | assumption))) | (apply set_attr; (· (repeat (first | assumption | exact app_new _ _ | apply app_get))); (· rfl)) | (apply set_sub; (· (repeat (first | assumption | exact app_new _ _ | apply app_get))); (· assumption))))) | (apply W2.s; (· first | assumption | exact i2_l (by (repeat (first | assumption | exact app_new _ _ | apply app_get))))) | (apply wIf_dt; (· first | assumption | omega)) | (apply wIf_df; (· first | assumption | omega))))
  refine wIf_t (show (false ^^ decide (op ∈ relL)) = true from (Bool.false_xor _).trans h2) ?_
  (repeat (first | exact ⟨rfl, rfl⟩ | (apply WO.s; (· (first | assumption | (apply attr_s; (· (repeat (first | assumption | exact app_new _ _ | apply app_get))); (· rfl)) | (apply sub_l; (· (repeat (first | assumption | exact app_new _ _ | apply app_get))); (· (first | rfl | assumption))) | (apply sub_d; (· (repeat (first | assumption | exact app_new _ _ | apply app_get))); (· (first | rfl | assumption))) | (apply sub_s; (· (repeat (first | assumption | exact app_new _ _ | apply app_get))); (· (first | rfl | assumption))) | (apply in_t; (· (repeat (first | assumption | exact app_new _ _ | apply app_get))); (· (first | rfl | assumption))) | (apply in_f; (· (repeat (first | assumption | exact app_new _ _ | apply app_get))); (· (first | rfl | assumption))) | (apply set_attr; (· (repeat (first | assumption | exact app_new _ _ | apply app_get))); (· rfl)) | (apply set_sub; (· (repeat (first | assumption | exact app_new _ _ | apply app_get))); (· assumption))))) | (apply W2.s; (· first | assumption | exact i2_l (by (repeat (first | assumption | exact app_new _ _ | apply app_get))))) | (apply wIf_dt; (· first | assumption | omega)) | (apply wIf_df; (· first | assumption | omega))))
 | bin b L R ihL ihR =>
  intro n H e a f hs ha hk he
  refine hide fun Ψ kΨ => ?_
  obtain ⟨pl, ty, kl, val, s, x, y, h1, h2, h3, h4⟩ := ha
  obtain ⟨v1, v2, H1, e1, p1, o1, o2⟩ := ihL (n + (max L.depth R.depth - L.depth)) H e x f hs h3 hk.1 he
  refine kΨ ?_
  rw [show n + (max L.depth R.depth - L.depth) + L.depth + 6 = n + max L.depth R.depth + 6 by omega] at e1
  have ih2 := fun g e => ihR (n + (max L.depth R.depth - R.depth)) H1 e y g (hs.pre p1) (h4.pre p1) hk.2
  rw [show n + (max L.depth R.depth - R.depth) + R.depth + 6 = n + max L.depth R.depth + 6 by omega] at ih2
  show ∃ v1 v2 H', cf (n + (max L.depth R.depth + 1) + 6) (.g .k_both_ways) _ _ = _ ∧ _
  rw [show n + (max L.depth R.depth + 1) + 6 = n + max L.depth R.depth + 6 + 1 by omega]
  generalize n + max L.depth R.depth = d at e1 ih2 ⊢
  have k1 := p_get p1 h1
  have k2 := p_get p1 h2
  have A := attr_s (n := .k_op) h1 rfl
  have Kd := attr_s (n := .k_kids) h1 rfl
  have S0 := sub_l (k := 0) h2 rfl
  have A1 := attr_s (n := .k_op) k1 rfl
  have Kd1 := attr_s (n := .k_kids) k1 rfl
  have S1 := sub_l (k := 1) k2 rfl
  cases b with
  | true =>
   cases hm : (bw L f).1 with
   | none =>
    rw [hm] at o1
    cases o1
    refine ⟨.none, v2, H1, cl_s (ρ := [(.k_st, .obj st), (.k_env, .obj e), (.k_node, .obj a)]) [fv A, fv A, fv A, fv A, fv Kd, fv S0, fc e1, fv A1, fv A1, fc (c_join_noneO (d + 5) o2)] (by kernel_rfl) rfl rfl rfl rfl, p1, ?_⟩
    simp only [bw, hm]; exact ⟨rfl, o2⟩
   | some g =>
    rw [hm] at o1
    refine hide fun Ψ kΨ => ?_
    obtain ⟨x, rfl, hx⟩ := o1
    obtain ⟨v3, v4, H2, e2, p2, o3, o4⟩ := ih2 g x hx
    obtain ⟨v5, H3, e3, p3, o5⟩ := c_joinO (d + 3) N H2 (o2.pre p2) o4 hN
    refine kΨ ?_
    refine ⟨v3, v5, H3, cl_s (ρ := [(.k_st, .obj st), (.k_env, .obj e), (.k_node, .obj a)]) [fv A, fv A, fv A, fv A, fv Kd, fv S0, fc e1, fv A1, fv Kd1, fv S1, fc e2, fv (attr_s (n := .k_op) (p_get p2 k1) rfl), fc e3] (by kernel_rfl) rfl rfl rfl rfl, (p1.trans p2).trans p3, ?_⟩
    simp only [bw, hm]; exact ⟨o3.pre p3, o5⟩
  | false =>
   cases hm : (bw L f).2 with
   | none =>
    rw [hm] at o2
    cases o2
    refine ⟨v1, .none, H1, cl_s (ρ := [(.k_st, .obj st), (.k_env, .obj e), (.k_node, .obj a)]) [fv A, fv A, fv A, fv A, fv A, fv Kd, fv S0, fc e1, fv A1, fv A1, fc (c_join_noneO (d + 5) o1)] (by kernel_rfl) rfl rfl rfl rfl, p1, ?_⟩
    simp only [bw, hm]; exact ⟨o1, rfl⟩
   | some g =>
    rw [hm] at o2
    refine hide fun Ψ kΨ => ?_
    obtain ⟨x, rfl, hx⟩ := o2
    obtain ⟨v3, v4, H2, e2, p2, o3, o4⟩ := ih2 g x hx
    obtain ⟨v5, H3, e3, p3, o5⟩ := c_joinO (d + 3) N H2 (o1.pre p2) o3 hN
    refine kΨ ?_
    refine ⟨v5, v4, H3, cl_s (ρ := [(.k_st, .obj st), (.k_env, .obj e), (.k_node, .obj a)]) [fv A, fv A, fv A, fv A, fv A, fv Kd, fv S0, fc e1, fv A1, fv Kd1, fv S1, fc e2, fv (attr_s (n := .k_op) (p_get p2 k1) rfl), fc e3] (by kernel_rfl) rfl rfl rfl rfl, (p1.trans p2).trans p3, ?_⟩
    simp only [bw, hm]; exact ⟨o5, o4.pre p3⟩
theorem c_assume (N : Nat) (hN : N ≤ 1000) {st sl w : Nat} {m : Bool} {l : Int} {D : List (Int × V)} (hD : ∀ k, k < N → ∃ x, get (k : Int) D = some x) (T : CT) (n : Nat) (H : MH) (e a : Nat) (f : Nat → IV) (t : Bool) (hs : StAt H st sl w m l D) (ha : RepC H T a) (hk : T.slots N) (he : H[e]? = some (.idict (dctL N f))) :
  ∃ v H', cf (n + T.depth + 7) (.g .k_assume) [.obj st, .obj e, .obj a, .bool t] H = some (v, H') ∧ H <+: H' ∧ OF N H' v (if t then (bw T f).1 else (bw T f).2) := by
 refine hide fun Ψ kΨ => ?_
 obtain ⟨v1, v2, H1, e1, p1, o1, o2⟩ := c_bw N hN hD T n H e a f hs ha hk he
 refine kΨ ?_
 cases t with
 | true => exact ⟨v1, H1, cl_eq (ρ := [(.k_st, .obj st), (.k_env, .obj e), (.k_node, .obj a), (.k_truth, .bool true)]) rfl rfl rfl (W2.s e1 ⟨rfl, rfl⟩), p1, o1⟩
 | false => exact ⟨v2, H1, cl_eq (ρ := [(.k_st, .obj st), (.k_env, .obj e), (.k_node, .obj a), (.k_truth, .bool false)]) rfl rfl rfl (W2.s e1 ⟨rfl, rfl⟩), p1, o2⟩
noncomputable def holdsT (σ : Nat → Int) : CT → Bool
 | .leaf op k c => if op = .k_eq then decide (σ k = c) else if op = .k_ne then decide (σ k ≠ c) else if op = .k_lt then decide (σ k < c) else decide (σ k ≥ c)
 | .bin true l r => holdsT σ l && holdsT σ r
 | .bin false l r => holdsT σ l || holdsT σ r
noncomputable def CT.fine : CT → Prop
 | .leaf op _ c => (op = .k_eq ∨ op = .k_ne ∨ op = .k_lt ∨ op = .k_ge) ∧ -1000 ≤ c ∧ c ≤ 1000
 | .bin _ l r => l.fine ∧ r.fine
noncomputable def inE (σ : Nat → Int) (f : Nat → IV) : Prop := ∀ i, (f i).1 ≤ σ i ∧ σ i ≤ (f i).2
theorem meet_in {x y : IV} {s : Int} (hx : x.1 ≤ s ∧ s ≤ x.2) (hy : y.1 ≤ s ∧ s ≤ y.2) : ∃ r, meetI x y = some r ∧ r.1 ≤ s ∧ s ≤ r.2 := by
 unfold meetI
 rw [if_neg (by omega)]
 exact ⟨_, rfl, by dsimp only; omega, by dsimp only; omega⟩
theorem below_in {x y : IV} {g s t : Int} (hx : x.1 ≤ s ∧ s ≤ x.2) (hy : y.1 ≤ t ∧ t ≤ y.2) (h : s + g ≤ t) (hs : -2000 ≤ s ∧ s ≤ 2000) (ht : -2000 ≤ t ∧ t ≤ 2000) (hg : 0 ≤ g ∧ g ≤ 1) : ∃ l r, belowI x y g = some (l, r) ∧ (l.1 ≤ s ∧ s ≤ l.2) ∧ r.1 ≤ t ∧ t ≤ r.2 := by
 unfold belowI
 rw [if_neg (by omega), if_neg (by omega)]
 refine hide fun Ψ kΨ => ?_
 obtain ⟨l, e1, h1⟩ := meet_in (y := (-2147483648, y.2 - g)) hx (by dsimp only; omega)
 obtain ⟨r, e2, h2⟩ := meet_in (y := (x.1 + g, 2147483647)) hy (by dsimp only; omega)
 refine kΨ ?_
 exact ⟨l, r, by rw [e1, e2]; rfl, h1, h2⟩
theorem without_in {x : IV} {n s : Int} (hx : x.1 ≤ s ∧ s ≤ x.2) (h : s ≠ n) : ∃ r, withoutI x n = some r ∧ r.1 ≤ s ∧ s ≤ r.2 := by
 unfold withoutI
 if h1 : x.1 = n then
  rw [if_pos h1, if_neg (by omega)]; exact ⟨_, rfl, by dsimp only; omega⟩
 else
  rw [if_neg h1]
  if h2 : x.2 = n then
   rw [if_pos h2]; exact ⟨_, rfl, by dsimp only; omega⟩
  else
   rw [if_neg h2]; exact ⟨_, rfl, hx⟩
theorem narrow_in {op : Nm} (ho : op = .k_eq ∨ op = .k_ne ∨ op = .k_lt ∨ op = .k_ge) {x : IV} {c s : Int} (hx : x.1 ≤ s ∧ s ≤ x.2) (hs : -1000 ≤ s ∧ s ≤ 1000) (hc : -1000 ≤ c ∧ c ≤ 1000)
  (h : holdsT (fun _ => s) (.leaf op 0 c) = true) : ∃ q, narrowI op x (c, c) = some q ∧ q.1.1 ≤ s ∧ s ≤ q.1.2 := by
 rcases ho with rfl | rfl | rfl | rfl
 ·have h : s = c := of_decide_eq_true h
  subst h
  refine hide fun Ψ kΨ => ?_
  obtain ⟨r, e, h⟩ := meet_in (y := (s, s)) hx ⟨Int.le_refl _, Int.le_refl _⟩
  refine kΨ ?_
  exact ⟨(r, r), (congrArg (Option.map fun b => (b, b)) e :), h⟩
 ·have h : s ≠ c := of_decide_eq_true h
  refine hide fun Ψ kΨ => ?_
  obtain ⟨r, e, h1⟩ := without_in hx h
  refine kΨ ?_
  have e : (if (c, c).1 = (c, c).2 then withoutI x (c, c).1 else some x) = some r := (if_pos rfl).trans e
  show ∃ q, both (if (c, c).1 = (c, c).2 then withoutI x (c, c).1 else some x) (if x.1 = x.2 then withoutI (c, c) x.1 else some (c, c)) = some q ∧ _
  rw [e]
  if h2 : x.1 = x.2 then
   refine hide fun Ψ kΨ => ?_
   obtain ⟨r2, e2, h3⟩ := without_in (x := (c, c)) (n := x.1) (s := c) ⟨Int.le_refl _, Int.le_refl _⟩ (by omega)
   refine kΨ ?_
   rw [if_pos h2, e2]; exact ⟨_, rfl, h1⟩
  else
   rw [if_neg h2]; exact ⟨_, rfl, h1⟩
 ·have h : s < c := of_decide_eq_true h
  refine hide fun Ψ kΨ => ?_
  obtain ⟨l, r, e, h1, h2⟩ := below_in (y := (c, c)) (t := c) (g := 1) hx ⟨Int.le_refl _, Int.le_refl _⟩ (by omega) (by omega) (by omega) (by omega)
  refine kΨ ?_
  exact ⟨_, e, h1⟩
 ·have h : s ≥ c := of_decide_eq_true h
  refine hide fun Ψ kΨ => ?_
  obtain ⟨l, r, e, h1, h2⟩ := below_in (x := (c, c)) (s := c) (g := 0) ⟨Int.le_refl _, Int.le_refl _⟩ hx (by omega) (by omega) (by omega) (by omega)
  refine kΨ ?_
  exact ⟨(r, l), (congrArg (Option.map fun b => (b.2, b.1)) e :), h2⟩
theorem rel_in {op : Nm} (ho : op = .k_eq ∨ op = .k_ne ∨ op = .k_lt ∨ op = .k_ge) {f : Nat → IV} {σ : Nat → Int} {k : Nat} {c : Int} (hf : inE σ f) (hs : ∀ i, -1000 ≤ σ i ∧ σ i ≤ 1000) (hc : -1000 ≤ c ∧ c ≤ 1000) (h : holdsT σ (.leaf op k c) = true) :
  ∃ g, relF op k c f = some g ∧ inE σ g := by
 refine hide fun Ψ kΨ => ?_
 obtain ⟨q, e, h1⟩ := narrow_in ho (hf k) (hs k) hc h
 obtain ⟨r, e2, h2⟩ := meet_in (hf k) h1
 refine kΨ ?_
 refine ⟨upd f k r, by unfold relF; rw [e]; exact congrArg (Option.map _) e2, fun i => ?_⟩
 unfold upd
 if hi : i = k then
  subst hi; rw [if_pos rfl]; exact h2
 else
  rw [if_neg hi]; exact hf i
theorem join_in {a b : Option (Nat → IV)} {σ : Nat → Int} (h : (∃ g, a = some g ∧ inE σ g) ∨ ∃ g, b = some g ∧ inE σ g) : ∃ g, joinO a b = some g ∧ inE σ g := by
 rcases h with ⟨g, rfl, h⟩ | ⟨g, rfl, h⟩
 ·cases b with
  | none => exact ⟨g, rfl, h⟩
  | some g' => exact ⟨_, rfl, fun i => by have := h i; simp only [joinI]; omega⟩
 ·cases a with
  | none => exact ⟨g, rfl, h⟩
  | some g' => exact ⟨_, rfl, fun i => by have := h i; simp only [joinI]; omega⟩
theorem bw_in {σ : Nat → Int} (hs : ∀ i, -1000 ≤ σ i ∧ σ i ≤ 1000) : ∀ (T : CT), T.fine → ∀ f, inE σ f → (holdsT σ T = true → ∃ g, (bw T f).1 = some g ∧ inE σ g) ∧ (holdsT σ T = false → ∃ g, (bw T f).2 = some g ∧ inE σ g)
 | .leaf op k c, ⟨ho, hc⟩, f, hf => by
  refine ⟨fun h => rel_in ho hf hs hc h, fun h => ?_⟩
  refine rel_in (op := oppN op) ?_ hf hs hc ?_
  ·rcases ho with rfl | rfl | rfl | rfl
   ·exact .inr (.inl rfl)
   ·exact .inl rfl
   ·exact .inr (.inr (.inr rfl))
   ·exact .inr (.inr (.inl rfl))
  ·rcases ho with rfl | rfl | rfl | rfl
   ·exact decide_eq_true (of_decide_eq_false h)
   ·exact decide_eq_true (Decidable.not_not.mp (of_decide_eq_false h))
   ·exact decide_eq_true (Int.not_lt.mp (of_decide_eq_false h))
   ·exact decide_eq_true (Int.not_le.mp (of_decide_eq_false h))
 | .bin true l r, ⟨hl, hr⟩, f, hf => by
  obtain ⟨a1, a2⟩ := bw_in hs l hl f hf
  simp only [holdsT, bw]
  cases hL : holdsT σ l with
  | true =>
   refine hide fun Ψ kΨ => ?_
   obtain ⟨g, e, hg⟩ := a1 hL
   obtain ⟨b1, b2⟩ := bw_in hs r hr g hg
   refine kΨ ?_
   rw [e]
   simp only [Bool.true_and]
   exact ⟨b1, fun h => join_in (.inr (b2 h))⟩
  | false =>
   refine hide fun Ψ kΨ => ?_
   obtain ⟨g, e, hg⟩ := a2 hL
   refine kΨ ?_
   simp only [Bool.false_and]
   refine ⟨fun h => (by cases h), fun _ => ?_⟩
   cases (bw l f).1 with
   | none => exact ⟨g, e, hg⟩
   | some m => exact join_in (.inl ⟨g, e, hg⟩)
 | .bin false l r, ⟨hl, hr⟩, f, hf => by
  obtain ⟨a1, a2⟩ := bw_in hs l hl f hf
  simp only [holdsT, bw]
  cases hL : holdsT σ l with
  | false =>
   refine hide fun Ψ kΨ => ?_
   obtain ⟨g, e, hg⟩ := a2 hL
   obtain ⟨b1, b2⟩ := bw_in hs r hr g hg
   refine kΨ ?_
   rw [e]
   simp only [Bool.false_or]
   exact ⟨fun h => join_in (.inr (b1 h)), b2⟩
  | true =>
   refine hide fun Ψ kΨ => ?_
   obtain ⟨g, e, hg⟩ := a1 hL
   refine kΨ ?_
   simp only [Bool.true_or]
   refine ⟨fun _ => ?_, fun h => (by cases h)⟩
   cases (bw l f).2 with
   | none => exact ⟨g, e, hg⟩
   | some m => exact join_in (.inl ⟨g, e, hg⟩)
theorem ap_get (H X : MH) (k : Nat) : (H ++ X)[H.length + k]? = X[k]? := by
 rw [List.getElem?_append_right (Nat.le_add_right _ _), Nat.add_sub_cancel_left]
theorem ap_get0 (H X : MH) : (H ++ X)[H.length]? = X[0]? := ap_get H X 0
theorem ap_set (H X : MH) (k : Nat) (o : O) : (H ++ X).set (H.length + k) o = H ++ X.set k o := by
 rw [List.set_append_right _ _ (Nat.le_add_right _ _), Nat.add_sub_cancel_left]
theorem ap_set0 (H X : MH) (o : O) : (H ++ X).set H.length o = H ++ X.set 0 o := ap_set H X 0 o
theorem set_new {H X : MH} {cl nm : Nm} {fs : List (Nm × V)} {w : V} (h : (okAttr nm && Nat.blt fs.length 100) = true) : setAttrV (H ++ (.inst cl fs :: X)) (.obj H.length) nm w = some (H ++ (.inst cl (put nm w fs) :: X)) :=
 (set_attr (ap_get0 H (.inst cl fs :: X)) h).trans (congrArg some (ap_set0 H (.inst cl fs :: X) _))
section
variable {n : Nat} {f i : Nm} {init : Fn} {as : List V} {H H' : MH} {ρ : Loc}
theorem cf_clsE {P : MH → Prop} (h1 : isBi f = false) (h2 : fnTab f = none) (h3 : clsTab f = some i) (h4 : fnTab i = some init) (hb : bindP init (.obj H.length :: as) = some ρ) (he : wS (cf n) init.body ρ (H ++ [.inst f []]) fun fl _ H2 => fl = .next ∧ P H2) : ∃ H', cf (n + 1) (.g f) as H = some (.obj H.length, H') ∧ P H' := by
 refine hide fun Ψ kΨ => ?_
 obtain ⟨⟨fl, ρ2, H2⟩, e, ρ', _, q, p⟩ := wS_s init.body (Sub.refl ρ) he
 refine kΨ ?_
 dsimp only at q p
 subst q
 refine ⟨H2, ?_, p⟩
 have e2 : runFn (cf n) init (.obj H.length :: as) (H ++ [.inst f []]) = some (.none, H2) := by
  unfold runFn
  rw [hb]
  exact congrArg en e
 rw [cf_eq] at e2 ⊢
 show (if isBi f = true then _ else opt (fnTab f) _ _) = _
 rw [h1, h2]
 show o1 (clsTab f) _ = _
 rw [h3]
 show o1 (fnTab i) _ = _
 rw [h4]
 exact congrArg (fun o => o2 o fun v H' => if isN v = true then some (V.obj H.length, H') else none) e2
theorem cf_cls (h1 : isBi f = false) (h2 : fnTab f = none) (h3 : clsTab f = some i) (h4 : fnTab i = some init) (hb : bindP init (.obj H.length :: as) = some ρ) (he : wS (cf n) init.body ρ (H ++ [.inst f []]) fun fl _ H2 => fl = .next ∧ H2 = H') : cf (n + 1) (.g f) as H = some (.obj H.length, H') := by
 obtain ⟨_, e, rfl⟩ := cf_clsE h1 h2 h3 h4 hb he
 exact e
end
section
variable {c : CF} {ρ : Loc} {H Y : MH} {cl nm i : Nm} {fs : List (Nm × V)} {r : S} {Q : Fl → Loc → MH → Prop} {v : V} {e : X}
theorem asg_sim (hs : get i ρ = some (.obj H.length)) (ho : (okAttr nm && Nat.blt fs.length 100) = true) (hv : ∀ H Q, Q v H → wE c ρ e H Q) (h : wS c r ρ (H ++ (.inst cl (put nm v fs) :: Y)) Q) : wS c (.seq (.asgAttr (.loc i) nm e) r) ρ (H ++ (.inst cl fs :: Y)) Q := by
 refine hv _ _ ?_
 show wO (get i ρ) _
 rw [hs]
 exact WO.s (set_new ho) h
theorem asg_new (hs : get i ρ = some (.obj H.length)) (ho : (okAttr nm && Nat.blt fs.length 100) = true) (h : wS c r ρ (H ++ (.inst cl (put nm (.obj (H.length + (Y.length + 1))) fs) :: (Y ++ [.list []]))) Q) : wS c (.seq (.asgAttr (.loc i) nm (.list .nil)) r) ρ (H ++ (.inst cl fs :: Y)) Q := by
 show wO (get i ρ) _
 rw [hs]
 have e1 : H ++ (.inst cl fs :: Y) ++ [.list []] = H ++ (.inst cl fs :: (Y ++ [.list []])) := List.append_assoc _ _ _
 have e2 : (H ++ (.inst cl fs :: Y)).length = H.length + (Y.length + 1) := List.length_append
 refine WO.s (a := H ++ (.inst cl (put nm (.obj (H.length + (Y.length + 1))) fs) :: (Y ++ [.list []]))) ?_ h
 show setAttrV (H ++ (.inst cl fs :: Y) ++ [.list []]) _ nm (.obj (H ++ (.inst cl fs :: Y)).length) = _
 rw [e1, e2]
 exact set_new ho
end
theorem n_Node (n : Nat) (H : MH) (op : Nm) (pl : Int) (ty : V) (kl : Nat) (val : V) : cf (n + 1) (.g .k_Node) [.str op, .int pl, ty, .obj kl, val] H = some (.obj H.length, H ++ [nodeO op pl ty kl val false]) := by
 refine cf_cls (ρ := [(.k_self, .obj H.length), (.k_op, .str op), (.k_place, .int pl), (.k_type_of, ty), (.k_kids, .obj kl), (.k_value, val)]) rfl rfl rfl rfl rfl ?_
 (repeat (first | (refine asg_new rfl rfl ?_) | (refine asg_sim rfl rfl (fun _ _ h => h) ?_)))
 exact ⟨rfl, rfl⟩
theorem n_Node4 (n : Nat) (H : MH) (op : Nm) (pl : Int) (ty : V) (kl : Nat) : cf (n + 1) (.g .k_Node) [.str op, .int pl, ty, .obj kl] H = some (.obj H.length, H ++ [nodeO op pl ty kl .none false]) := by
 refine cf_cls (ρ := [(.k_self, .obj H.length), (.k_op, .str op), (.k_place, .int pl), (.k_type_of, ty), (.k_kids, .obj kl), (.k_value, .none)]) rfl rfl rfl rfl rfl ?_
 (repeat (first | (refine asg_new rfl rfl ?_) | (refine asg_sim rfl rfl (fun _ _ h => h) ?_)))
 exact ⟨rfl, rfl⟩
noncomputable def objI (nm kind : Nm) (ty : V) (pl : Int) (lv : Int) (md : Nm) (slot : Int) : O := .inst .k_Obj [(.k_name, .str nm), (.k_kind, .str kind), (.k_type, ty), (.k_place, .int pl), (.k_exported, .bool false), (.k_readonly, .bool false), (.k_level, .int lv), (.k_module, .str md), (.k_value, .none), (.k_slot, .int slot), (.k_offset, .int 0), (.k_number, .int 0), (.k_isparam, .bool false), (.k_narrowed, .none)]
theorem n_Obj (n : Nat) (H : MH) (nm kind : Nm) (ty : V) (pl : Int) : cf (n + 1) (.g .k_Obj) [.str nm, .str kind, ty, .int pl] H = some (.obj H.length, H ++ [objI nm kind ty pl 0 .k_empty 0]) := by
 refine cf_cls (ρ := [(.k_self, .obj H.length), (.k_name, .str nm), (.k_kind, .str kind), (.k_type_of, ty), (.k_place, .int pl)]) rfl rfl rfl rfl rfl ?_
 (repeat (first | (refine asg_new rfl rfl ?_) | (refine asg_sim rfl rfl (fun _ _ h => h) ?_)))
 exact ⟨rfl, rfl⟩
theorem n_Type (n : Nat) (H : MH) (num : Int) (form : Nm) (size : Int) : cf (n + 1) (.g .k_Type) [.int num, .str form, .int size] H = some (.obj H.length, H ++ [typeO num form size .none 0 (H.length + 1) (H.length + 2) (H.length + 3), .list [], .list [], .list []]) := by
 refine cf_cls (ρ := [(.k_self, .obj H.length), (.k_number, .int num), (.k_form, .str form), (.k_size, .int size)]) rfl rfl rfl rfl rfl ?_
 (repeat (first | (refine asg_new rfl rfl ?_) | (refine asg_sim rfl rfl (fun _ _ h => h) ?_)))
 exact ⟨rfl, rfl⟩
theorem n_Ranges (n : Nat) (H : MH) (sl : Nat) : cf (n + 1) (.g .k_Ranges) [.int 1, .obj sl] H = some (.obj H.length, H ++ [stO sl (H.length + 1) true 0, .list []]) := by
 refine cf_cls (ρ := [(.k_self, .obj H.length), (.k_level, .int 1), (.k_slots, .obj sl)]) rfl rfl rfl rfl rfl ?_
 (repeat (first | (refine asg_new rfl rfl ?_) | (refine asg_sim rfl rfl (fun _ _ h => h) ?_)))
 exact ⟨rfl, rfl⟩
theorem c_law_const (n : Nat) (H : MH) (t : Nat) (c : Int) : cf (n + 2) (.g .k_law_const) [.obj t, .int c] H = some (.obj (H.length + 1), H ++ [.list [], nodeO .k_const 1 (.obj t) H.length (.int c) false]) := by
 have e := n_Node n (H ++ [.list []]) .k_const 1 (.obj t) H.length (.int c)
 rw [List.length_append, List.append_assoc] at e
 exact cl_eq (ρ := [(.k_t, .obj t), (.k_n, .int c)]) rfl rfl rfl (W2.s e ⟨rfl, rfl⟩)
theorem c_law_var (n : Nat) (H : MH) (nm : Nm) (t : Nat) (slot : Int) : cf (n + 2) (.g .k_law_var) [.obj t, .str nm, .int slot] H = some (.obj (H.length + 2), H ++ [objO nm (.obj t) slot, .list [], nodeO .k_var 1 (.obj t) (H.length + 1) (.obj H.length) false]) := by
 have e0 := n_Obj n H nm .k_var (.obj t) 0
 have e := n_Node n (H ++ [objO nm (.obj t) slot, .list []]) .k_var 1 (.obj t) (H.length + 1) (.obj H.length)
 rw [List.length_append, List.append_assoc] at e
 refine cl_eq (ρ := [(.k_t, .obj t), (.k_name, .str nm), (.k_slot, .int slot)]) rfl rfl rfl (W2.s e0 (WO.s (set_new rfl) (WO.s (set_new rfl) (WO.s (set_new rfl) ?_))))
 have e1 : H ++ [objO nm (.obj t) slot] ++ [.list []] = H ++ [objO nm (.obj t) slot, .list []] := List.append_assoc _ _ _
 have e2 : (H ++ [objO nm (.obj t) slot]).length = H.length + 1 := List.length_append
 refine W2.s (a := .obj (H.length + 2)) (b := H ++ ([objO nm (.obj t) slot, .list []] ++ [nodeO .k_var 1 (.obj t) (H.length + 1) (.obj H.length) false])) ?_ ⟨rfl, rfl⟩
 show cf (n + 1) (.g .k_Node) [.str .k_var, .int 1, .obj t, .obj (H ++ [objO nm (.obj t) slot]).length, .obj H.length] (H ++ [objO nm (.obj t) slot] ++ [.list []]) = _
 rw [e1, e2]
 exact e
theorem c_Types_new (n : Nat) (H : MH) (a : Nat) (fs : List (Nm × V)) (num : Int) (form : Nm) (size : Int) (h : H[a]? = some (.inst .k_Types fs)) (hc : get .k_counter fs = some (.int num)) (hl : fs.length < 100) {G : MH} (hG : G = H.set a (.inst .k_Types (put .k_counter (.int (num + 1)) fs))) : cf (n + 2) (.g .k_Types_new) [.obj a, .str form, .int size] H = some (.obj G.length, G ++ [typeO (num + 1) form size .none 0 (G.length + 1) (G.length + 2) (G.length + 3), .list [], .list [], .list []]) := by
 have e0 := n_Type n G (num + 1) form size
 have e1 := set_same (o := .inst .k_Types (put .k_counter (.int (num + 1)) fs)) h
 rw [← hG] at e1
 have e3 := set_attr (n := .k_counter) (w := .int (num + 1)) h (by rw [show okAttr .k_counter = true from rfl, Bool.true_and]; exact Nat.ble_eq_true_of_le hl)
 rw [← hG] at e3
 have e2 : get .k_counter (put .k_counter (.int (num + 1)) fs) = some (.int (num + 1)) := get_put2.trans (if_pos rfl)
 refine cl_eq (ρ := [(.k_self, .obj a), (.k_form, .str form), (.k_size, .int size), (.k_module, .str .k_empty), (.k_label, .str .k_empty)]) rfl rfl rfl ?_
 refine WO.s (attr_s h hc) (WO.s e3 (WO.s (attr_s e1 e2) (W2.s e0 (WO.s (set_new rfl) (WO.s (set_new rfl) ⟨rfl, rfl⟩)))))
noncomputable def badL : List V → Bool
 | [.none] => true
 | [.obj 0, .int _] => true
 | _ => false
noncomputable def good (b : Bool) : O → Bool
 | .inst c _ => !decide (c = .k_Types) || b
 | .list l => !badL l
 | _ => true
noncomputable def BeadAt (H : MH) : Prop := ∃ j : Nat, H[1]? = some (.list [.obj 0, .int j])
structure Kp (b : Bool) (H H' : MH) : Prop where
 ln : H.length ≤ H'.length
 gt : ∀ (a : Nat) (o : O), H[a]? = some o → good b o = true → H'[a]? = some o
 bd : BeadAt H → BeadAt H'
theorem Kp.refl (b : Bool) (H : MH) : Kp b H H := ⟨Nat.le_refl _, fun _ _ h _ => h, id⟩
theorem Kp.trans {b : Bool} {H H' H'' : MH} (p : Kp b H H') (q : Kp b H' H'') : Kp b H H'' := ⟨Nat.le_trans p.ln q.ln, fun a o h g => q.gt a o (p.gt a o h g) g, fun h => q.bd (p.bd h)⟩
theorem Kp.pre {b : Bool} {H H' : MH} (p : H <+: H') : Kp b H H' := ⟨p.length_le, fun a o h _ => p_get p h, fun ⟨j, h⟩ => ⟨j, p_get p h⟩⟩
theorem Kp.app (b : Bool) (H X : MH) : Kp b H (H ++ X) := .pre (pre_app _ _)
theorem Kp.weak {b : Bool} {H H' : MH} (p : Kp b H H') : Kp false H H' := ⟨p.ln, fun a o h g => p.gt a o h (by
 cases o with
 | inst c fs =>
  show (!decide (c = .k_Types) || b) = true
  rw [show (!decide (c = .k_Types)) = true from (Bool.or_false _).symm.trans g]; rfl
 | list l => exact g
 | _ => rfl), p.bd⟩
theorem Kp.set {b : Bool} {H : MH} {a : Nat} {o o' : O} (h : H[a]? = some o) (g : good b o = false) (nb : ∀ x y, o ≠ .list [x, y]) : Kp b H (H.set a o') := ⟨by simp, fun a' p h' g' => by
 rw [List.getElem?_set]
 by_cases e : a = a'
 ·subst e; rw [h] at h'; cases h'; rw [g] at g'; cases g'
 ·rw [if_neg e]; exact h', fun ⟨j, hj⟩ => ⟨j, by
 rw [List.getElem?_set]
 by_cases e : a = 1
 ·subst e; rw [h] at hj; cases hj; exact (nb _ _ rfl).elim
 ·rw [if_neg e]; exact hj⟩⟩
theorem Kp.bead {b : Bool} {H : MH} {j j' : Nat} (h : H[1]? = some (.list [.obj 0, .int j])) : Kp b H (H.set 1 (.list [.obj 0, .int j'])) := ⟨by simp, fun a' p h' g' => by
 rw [List.getElem?_set]
 by_cases e : 1 = a'
 ·subst e; rw [h] at h'; cases h'; cases g'
 ·rw [if_neg e]; exact h', fun _ => ⟨j', set_same h⟩⟩
theorem good_pair (b : Bool) (x y : Nat) : good b (.list [.obj x, .obj y]) = true := by cases x <;> rfl
theorem IsVar.kp {H H' : MH} {b : Bool} (p : Kp b H H') {a : Nat} {k : Int} (h : IsVar H a k) : IsVar H' a k := by
 refine hide fun Ψ kΨ => ?_
 obtain ⟨pl, ty, ty', kl, v, s, nm, h1, h2, h3⟩ := h
 refine kΨ ?_
 exact ⟨pl, ty, ty', kl, v, s, nm, p.gt _ _ h1 rfl, p.gt _ _ h2 rfl, p.gt _ _ h3 rfl⟩
theorem IsTy.kp {H H' : MH} {b : Bool} (p : Kp b H H') {a : Nat} {form : Nm} {len : Int} (h : IsTy H a form len) : IsTy H' a form len := by
 refine hide fun Ψ kΨ => ?_
 obtain ⟨num, size, base, fl, pl, hl, h⟩ := h
 refine kΨ ?_
 exact ⟨num, size, base, fl, pl, hl, p.gt _ _ h rfl⟩
theorem IsInt.kp {H H' : MH} {b : Bool} (p : Kp b H H') {a : Nat} (h : IsInt H a) : IsInt H' a := h.imp fun _ h => h.kp p
theorem IsConst.kp {H H' : MH} {b : Bool} (p : Kp b H H') {a : Nat} {k : Int} (h : IsConst H a k) : IsConst H' a k := by
 refine hide fun Ψ kΨ => ?_
 obtain ⟨pl, t, kl, s, h1, h2, h3⟩ := h
 refine kΨ ?_
 exact ⟨pl, t, kl, s, h1.kp p, p.gt _ _ h2 rfl, p.gt _ _ h3 rfl⟩
theorem StAt.kp {H H' : MH} {b : Bool} (p : Kp b H H') {st sl w : Nat} {m : Bool} {l : Int} {D : List (Int × V)} (h : StAt H st sl w m l D) : StAt H' st sl w m l D := ⟨p.gt _ _ h.1 rfl, p.gt _ _ h.2 rfl⟩
theorem IsRel.kp {H H' : MH} {b : Bool} (p : Kp b H H') {a : Nat} {op : Nm} {k c : Int} (h : IsRel H a op k c) : IsRel H' a op k c := by
 refine hide fun Ψ kΨ => ?_
 obtain ⟨pl, ty, kl, val, s, x, y, h1, h2, h3, h4, h5⟩ := h
 refine kΨ ?_
 exact ⟨pl, ty, kl, val, s, x, y, p.gt _ _ h1 rfl, h2, p.gt _ _ h3 (good_pair _ _ _), h4.kp p, h5.kp p⟩
theorem RepC.kp {H H' : MH} {b : Bool} (p : Kp b H H') : ∀ {T : CT} {a : Nat}, RepC H T a → RepC H' T a := by
 intro T
 induction T with
 | leaf op k c => exact fun h => IsRel.kp p h
 | bin q l r ihl ihr =>
  intro a h
  refine hide fun Ψ kΨ => ?_
  obtain ⟨pl, ty, kl, val, s, x, y, h1, h2, h3, h4⟩ := h
  refine kΨ ?_
  exact ⟨pl, ty, kl, val, s, x, y, p.gt _ _ h1 (by cases q <;> rfl), p.gt _ _ h2 (good_pair _ _ _), ihl h3, ihr h4⟩
theorem OE.kp {H H' : MH} {b : Bool} (p : Kp b H H') {v : V} {o : Option (List (Int × V))} (h : OE H v o) : OE H' v o := by
 cases o with
 | none => exact h
 | some E => obtain ⟨e, h1, h2⟩ := h; exact ⟨e, h1, p.gt _ _ h2 rfl⟩
theorem OF.kp {N : Nat} {H H' : MH} {b : Bool} (p : Kp b H H') {v : V} {o : Option (Nat → IV)} (h : OF N H v o) : OF N H' v o := OE.kp p h
noncomputable def TysAt (H : MH) (T t b nn : Nat) : Prop := ∃ fs num, H[T]? = some (.inst .k_Types fs) ∧ fs.length < 90 ∧ get .k_counter fs = some (.int num) ∧ get .k_integer fs = some (.obj t) ∧ get .k_boolean fs = some (.obj b) ∧ get .k_none fs = some (.obj nn)
theorem TysAt.kp {H H' : MH} (p : Kp true H H') {T t b nn : Nat} (h : TysAt H T t b nn) : TysAt H' T t b nn := by
 refine hide fun Ψ kΨ => ?_
 obtain ⟨fs, num, h, r⟩ := h
 refine kΨ ?_
 exact ⟨fs, num, p.gt _ _ h rfl, r⟩
theorem types_step (n : Nat) {H : MH} {a : Nat} {fs : List (Nm × V)} {num : Int} {form nm : Nm} {size : Int} {r : S} {Q : Fl → Loc → MH → Prop} (ho : okAttr nm = true) (h : H[a]? = some (.inst .k_Types fs)) (hc : get .k_counter fs = some (.int num)) (hl : (put .k_counter (.int (num + 1)) fs).length < 100) (hl2 : fs.length < 100)
  (k : ∀ H' i, Kp false H H' → H'[a]? = some (.inst .k_Types (put nm (.obj i) (put .k_counter (.int (num + 1)) fs))) → IsTy H' i form 0 → wS (cf (n + 2)) r [(.k_self, .obj a)] H' Q) :
  wS (cf (n + 2)) (.seq (.asgAttr (.loc .k_self) nm (.meth (.loc .k_self) .k_new (.cons (.cstr form) (.cons (.cint size) .nil)))) r) [(.k_self, .obj a)] H Q := by
 have e1 := c_Types_new n H a fs num form size h hc hl2 rfl
 have ga := app_get (X := [typeO (num + 1) form size .none 0 ((H.set a (.inst .k_Types (put .k_counter (.int (num + 1)) fs))).length + 1) ((H.set a (.inst .k_Types (put .k_counter (.int (num + 1)) fs))).length + 2) ((H.set a (.inst .k_Types (put .k_counter (.int (num + 1)) fs))).length + 3), .list [], .list [], .list []]) (set_same (o := .inst .k_Types (put .k_counter (.int (num + 1)) fs)) h)
 have k0 : Kp false H _ := (Kp.set (o' := .inst .k_Types (put .k_counter (.int (num + 1)) fs)) h rfl (fun _ _ e => nomatch e)).trans (Kp.app _ _ [typeO (num + 1) form size .none 0 ((H.set a (.inst .k_Types (put .k_counter (.int (num + 1)) fs))).length + 1) ((H.set a (.inst .k_Types (put .k_counter (.int (num + 1)) fs))).length + 2) ((H.set a (.inst .k_Types (put .k_counter (.int (num + 1)) fs))).length + 3), .list [], .list [], .list []])
 have gn := ap_get0 (H.set a (.inst .k_Types (put .k_counter (.int (num + 1)) fs))) [typeO (num + 1) form size .none 0 ((H.set a (.inst .k_Types (put .k_counter (.int (num + 1)) fs))).length + 1) ((H.set a (.inst .k_Types (put .k_counter (.int (num + 1)) fs))).length + 2) ((H.set a (.inst .k_Types (put .k_counter (.int (num + 1)) fs))).length + 3), .list [], .list [], .list []]
 generalize H.set a (.inst .k_Types (put .k_counter (.int (num + 1)) fs)) ++ [typeO (num + 1) form size .none 0 ((H.set a (.inst .k_Types (put .k_counter (.int (num + 1)) fs))).length + 1) ((H.set a (.inst .k_Types (put .k_counter (.int (num + 1)) fs))).length + 2) ((H.set a (.inst .k_Types (put .k_counter (.int (num + 1)) fs))).length + 3), .list [], .list [], .list []] = G at e1 ga k0 gn
 have e2 := set_attr (n := nm) (w := .obj (H.set a (.inst .k_Types (put .k_counter (.int (num + 1)) fs))).length) ga (by rw [ho, Bool.true_and]; exact Nat.ble_eq_true_of_le hl)
 have k1 := Kp.set (b := false) (o' := .inst .k_Types (put nm (.obj (H.set a (.inst .k_Types (put .k_counter (.int (num + 1)) fs))).length) (put .k_counter (.int (num + 1)) fs))) ga rfl (fun _ _ e => nomatch e)
 refine WO.s (a := some .k_Types_new) ?_ (W2.s e1 (WO.s e2 (k _ _ (k0.trans k1) (set_same ga) ⟨_, _, _, _, _, _, k1.gt _ _ gn rfl⟩)))
 show o1 H[a]? _ = _
 rw [h]
 rfl
theorem n_Types (n : Nat) (H : MH) : ∃ H', cf (n + 3) (.g .k_Types) [] H = some (.obj H.length, H') ∧ Kp false H H' ∧ ∃ t b nn, TysAt H' H.length t b nn ∧ IsTy H' t .k_integer 0 ∧ IsTy H' b .k_boolean 0 ∧ IsTy H' nn .k_none 0 := by
 refine cf_clsE (ρ := [(.k_self, .obj H.length)]) rfl rfl rfl rfl rfl ?_
 refine asg_sim rfl rfl (fun _ _ h => h) ?_
 have h0 : (H ++ [O.inst .k_Types [(.k_counter, .int 0), (.k_known, .obj (H.length + 1))], .idict []])[H.length]? = some (.inst .k_Types [(.k_counter, .int 0), (.k_known, .obj (H.length + 1))]) := ap_get0 _ _
 have e1 : H ++ [O.inst .k_Types [(.k_counter, .int 0)]] ++ [.idict []] = H ++ [O.inst .k_Types [(.k_counter, .int 0)], .idict []] := List.append_assoc _ _ _
 have e2 : (H ++ [O.inst .k_Types [(.k_counter, .int 0)]]).length = H.length + 1 := List.length_append
 refine WO.s (a := H ++ [O.inst .k_Types [(.k_counter, .int 0), (.k_known, .obj (H.length + 1))], .idict []]) ?_ ?_
 ·show setAttrV (H ++ [O.inst .k_Types [(.k_counter, .int 0)]] ++ [.idict []]) _ _ (.obj (H ++ [O.inst .k_Types [(.k_counter, .int 0)]]).length) = _
  rw [e1, e2]
  exact set_new rfl
 have p0 := Kp.app false H [O.inst .k_Types [(.k_counter, .int 0), (.k_known, .obj (H.length + 1))], .idict []]
 generalize H ++ [O.inst .k_Types [(.k_counter, .int 0), (.k_known, .obj (H.length + 1))], .idict []] = H0 at h0 p0 ⊢
 refine types_step n rfl h0 rfl (Nat.le_of_ble_eq_true rfl) (Nat.le_of_ble_eq_true rfl) fun H1 i1 k1 a1 t1 => ?_
 refine types_step n rfl a1 rfl (Nat.le_of_ble_eq_true rfl) (Nat.le_of_ble_eq_true rfl) fun H2 i2 k2 a2 t2 => ?_
 refine types_step n rfl a2 rfl (Nat.le_of_ble_eq_true rfl) (Nat.le_of_ble_eq_true rfl) fun H3 i3 k3 a3 t3 => ?_
 refine types_step n rfl a3 rfl (Nat.le_of_ble_eq_true rfl) (Nat.le_of_ble_eq_true rfl) fun H4 i4 k4 a4 t4 => ?_
 refine types_step n rfl a4 rfl (Nat.le_of_ble_eq_true rfl) (Nat.le_of_ble_eq_true rfl) fun H5 i5 k5 a5 t5 => ?_
 refine types_step n rfl a5 rfl (Nat.le_of_ble_eq_true rfl) (Nat.le_of_ble_eq_true rfl) fun H6 i6 k6 a6 t6 => ?_
 refine types_step n rfl a6 rfl (Nat.le_of_ble_eq_true rfl) (Nat.le_of_ble_eq_true rfl) fun H7 i7 k7 a7 t7 => ?_
 have k57 := k5.trans (k6.trans k7)
 have k27 := k2.trans (k3.trans (k4.trans k57))
 exact ⟨rfl, p0.trans (k1.trans k27), i4, i1, i7, ⟨_, _, a7, Nat.le_of_ble_eq_true rfl, rfl, rfl, rfl, rfl⟩, t4.kp k57, t1.kp k27, t7⟩
noncomputable def ListAt (H : MH) (ns : List Int) : Prop := H[0]? = some (.list (ns.map .int))
theorem ListAt.kp {H H' : MH} {ns : List Int} {b : Bool} (p : Kp b H H') (h : ListAt H ns) : ListAt H' ns := by
 refine p.gt _ _ h ?_
 match ns with
 | [] => rfl
 | [_] => rfl
 | [_, _] => rfl
 | _ :: _ :: _ :: _ => rfl
theorem set_subl {H : MH} {i : Nat} {xs : List V} {j : Int} {v : V} (h : H[i]? = some (.list xs)) (hj : 0 ≤ j ∧ j < xs.length) : setSubV H (.obj i) (.int j) v = some (H.set i (.list (xs.set j.toNat v))) := by
 show o1 H[i]? _ = _
 rw [h]
 exact if_pos hj
theorem c_bead (n : Nat) {H : MH} {ns : List Int} {lim : Int} (hl : 0 < lim) (hb : BeadAt H) (h0 : ListAt H ns) : ∃ b H', cf (n + 2) (.g .k_law_bead) [.obj 1, .int lim] H = some (.int b, H') ∧ 0 ≤ b ∧ b < lim ∧ Kp true H H' := by
 obtain ⟨j, hj⟩ := hb
 have h1 := set_same (o := .list [.obj 0, .int (j + 1 : Nat)]) hj
 have k := Kp.bead (b := true) (j' := j + 1) hj
 have h0' := h0.kp k
 have hs : setSubV H (.obj 1) (.int 1) (.int (j + 1)) = some (H.set 1 (.list [.obj 0, .int (j + 1 : Nat)])) := set_subl hj ⟨of_decide_eq_true rfl, of_decide_eq_true rfl⟩
 generalize H.set 1 (.list [.obj 0, .int (j + 1 : Nat)]) = G at h1 k h0' hs
 have e1 := cf_len n h0'
 rw [List.length_map] at e1
 if hc : ns.length < j + 1 then
  refine ⟨0, G, cl_eq (ρ := [(.k_string_of, .obj 1), (.k_limit, .int lim)]) rfl rfl rfl ?_, Int.le_refl _, hl, k⟩
  refine WO.s (sub_l hj rfl) (WO.s hs (WO.s (sub_l h1 rfl) (WO.s (sub_l h1 rfl) (W2.s e1 (wIf_dt (Int.ofNat_lt.mpr hc) ⟨rfl, rfl⟩)))))
 else
  have hlt : j < ns.length := by omega
  have hg : (ns.map V.int)[j]? = some (.int ns[j]) := by rw [List.getElem?_map, List.getElem?_eq_getElem hlt]; rfl
  have hn : nth (ns.map V.int) ((j + 1 : Nat) - 1 : Int) = some (.int ns[j]) := by
   rw [show ((j + 1 : Nat) - 1 : Int) = (j : Int) by omega]
   exact (if_pos (Int.natCast_nonneg j)).trans hg
  refine ⟨(ns[j]).natAbs % lim, G, cl_eq (ρ := [(.k_string_of, .obj 1), (.k_limit, .int lim)]) rfl rfl rfl ?_, Int.emod_nonneg _ (by omega), Int.emod_lt_of_pos _ hl, k⟩
  refine WO.s (sub_l hj rfl) (WO.s hs (WO.s (sub_l h1 rfl) (WO.s (sub_l h1 rfl) (W2.s e1 (wIf_df (fun h => hc (Int.ofNat_lt.mp h)) (WO.s (sub_l h1 rfl) (WO.s (sub_l h1 rfl) (WO.s (sub_l h0' hn) (W2.s (cf_abs _ _ _) (W2.s ?_ ⟨rfl, rfl⟩))))))))))
  exact if_pos hl
section
variable {c : CF} {x : Nm} {e as : X} {ρ ρ2 : Loc} {H : MH} {Q : V → MH → Prop}
noncomputable def wCo (c : CF) (ρ : Loc) (x : Nm) (e : X) : List V → MH → (List V → MH → Prop) → Prop
 | [], H, Q => Q [] H
 | v :: r, H, Q => wE c (put x v ρ) e H fun w H => wCo c ρ x e r H fun l H => Q (w :: l) H
theorem wCo_s (hρ : Sub ρ ρ2) : ∀ (items : List V) {H : MH} {Q : List V → MH → Prop}, wCo c ρ x e items H Q → ∃ r, compL (fun v H => evE c (put x v ρ2) e H) items H = some r ∧ Q r.1 r.2
 | [], _, _, h => ⟨_, rfl, h⟩
 | v :: r, _, _, h => go2 (two_ex (wE_s (hρ.put x v) e h)) fun _ _ h => go2 (two_ex (wCo_s hρ r h)) fun _ _ h => ⟨_, rfl, h⟩
theorem wx_range (h : wEs c ρ as H fun vs H1 => wO (rangeV vs) fun items => wCo c ρ x e items H1 fun l H2 => Q (.obj H2.length) (H2 ++ [.list l])) : WX c (.comp e x (.range as)) ρ H Q := ⟨fun ρ2 hρ => by
 have t : ∃ r, o2 (evEs c ρ2 as H) (fun vs H => o1 (rangeV vs) fun items => o2 (compL (fun a H => evE c (put x a ρ2) e H) items H) fun l H => some (V.obj H.length, H ++ [.list l])) = some r ∧ Q r.1 r.2 :=
  go2 (two_ex (wEs_s hρ as h)) fun _ _ h => go1 (wO_s h) fun items h => go2 (two_ex (wCo_s hρ items h)) fun _ _ h => ⟨_, rfl, h⟩
 exact two_ex t⟩
end
theorem nth3 {f : Nat → V} {k : Nat} (h : k < 3) : nth [f 0, f 1, f 2] (k : Int) = some (f k) := by
 rcases k with _ | _ | _ | k
 ·rfl
 ·rfl
 ·rfl
 ·omega
theorem c_holds (σ : Nat → Int) (vl : Nat) (T : CT) : ∀ (n : Nat) (H : MH) (a : Nat), RepC H T a → T.fine → T.slots 3 → H[vl]? = some (.list [.int (σ 0), .int (σ 1), .int (σ 2)]) → ∃ H', cf (n + T.depth + 1) (.g .k_law_holds) [.obj a, .obj vl] H = some (.bool (holdsT σ T), H') ∧ H <+: H' := by
 induction T with
 | leaf op k c =>
  intro n H a ha hf hk hv
  obtain ⟨pl_1, ty_1, kl_1, val, s_1, xa, ya, h1, h2, h3, h4, h5⟩ := ha
  obtain ⟨pl, ty, ty', kl, v, s, nm, v1, v2, v3⟩ := h4
  obtain ⟨pl, t, kl, s, c1, c2, c3⟩ := h5
  have n1 := rel_ne (a := .k_amp) h2 rfl
  have n2 := rel_ne (a := .k_OR) h2 rfl
  have hn := nth3 (f := fun i => .int (σ i)) hk
  have e : get op ([(.k_eq, .bool (decide (σ k = c))), (.k_ne, .bool (!decide (σ k = c))), (.k_lt, .bool (decide (σ k < c))), (.k_ge, .bool (decide (σ k ≥ c)))] : List (Nm × V)) = some (.bool (holdsT σ (.leaf op k c))) := by
   rcases hf.1 with rfl | rfl | rfl | rfl
   ·rfl
   ·exact congrArg (fun b => some (V.bool b)) (decide_not (p := σ k = c)).symm
   ·rfl
   ·rfl
  refine ⟨H ++ [.sdict [(.k_eq, .bool (decide (σ k = c))), (.k_ne, .bool (!decide (σ k = c))), (.k_lt, .bool (decide (σ k < c))), (.k_ge, .bool (decide (σ k ≥ c)))]], cl_eq (ρ := [(.k_node, .obj a), (.k_values, .obj vl)]) rfl rfl rfl ?_, pre_app _ _⟩
  (repeat (first | exact ⟨rfl, rfl⟩ | (apply WO.s; (· (first | assumption | (apply attr_s; (· (repeat (first | assumption | exact app_new _ _ | apply app_get))); (· rfl)) | (apply sub_l; (· (repeat (first | assumption | exact app_new _ _ | apply app_get))); (· (first | rfl | assumption))) | (apply sub_d; (· (repeat (first | assumption | exact app_new _ _ | apply app_get))); (· (first | rfl | assumption))) | (apply sub_s; (· (repeat (first | assumption | exact app_new _ _ | apply app_get))); (· (first | rfl | assumption))) | (apply in_t; (· (repeat (first | assumption | exact app_new _ _ | apply app_get))); (· (first | rfl | assumption))) | (apply in_f; (· (repeat (first | assumption | exact app_new _ _ | apply app_get))); (· (first | rfl | assumption))) | (apply set_attr; (· (repeat (first | assumption | exact app_new _ _ | apply app_get))); (· rfl)) | (apply set_sub; (· (repeat (first | assumption | exact app_new _ _ | apply app_get))); (· assumption))))) | (apply W2.s; (· first | assumption | exact i2_l (by (repeat (first | assumption | exact app_new _ _ | apply app_get))))) | (apply wIf_dt; (· first | assumption | omega)) | (apply wIf_df; (· first | assumption | omega))))
 | bin b L R ihL ihR =>
  intro n H a ha hf hk hv
  obtain ⟨pl, ty, kl, val, s, x, y, h1, h2, h3, h4⟩ := ha
  obtain ⟨H1, e1, p1⟩ := ihL (n + (max L.depth R.depth - L.depth)) H x h3 hf.1 hk.1 hv
  obtain ⟨H2, e2, p2⟩ := ihR (n + (max L.depth R.depth - R.depth)) H1 y (h4.pre p1) hf.2 hk.2 (p_get p1 hv)
  rw [show n + (max L.depth R.depth - L.depth) + L.depth + 1 = n + max L.depth R.depth + 1 by omega] at e1
  rw [show n + (max L.depth R.depth - R.depth) + R.depth + 1 = n + max L.depth R.depth + 1 by omega] at e2
  show ∃ H', cf (n + (max L.depth R.depth + 1) + 1) (.g .k_law_holds) _ _ = _ ∧ _
  rw [show n + (max L.depth R.depth + 1) + 1 = n + max L.depth R.depth + 1 + 1 by omega]
  generalize n + max L.depth R.depth + 1 = d at e1 e2 ⊢
  have k1 := p_get p1 h1
  have k2 := p_get p1 h2
  have A := attr_s (n := .k_op) h1 rfl
  have Kd := attr_s (n := .k_kids) h1 rfl
  have S0 := sub_l (k := 0) h2 rfl
  have Kd1 := attr_s (n := .k_kids) k1 rfl
  have S1 := sub_l (k := 1) k2 rfl
  cases b with
  | true =>
   show ∃ H', cf (d + 1) _ _ _ = some (.bool (holdsT σ L && holdsT σ R), H') ∧ _
   cases hl : holdsT σ L with
   | true =>
    rw [hl] at e1
    exact ⟨H2, cl_s (ρ := [(.k_node, .obj a), (.k_values, .obj vl)]) [fv A, fv Kd, fv S0, fc e1, fv Kd1, fv S1, fc e2] (by kernel_rfl) rfl rfl rfl rfl, p1.trans p2⟩
   | false =>
    rw [hl] at e1
    exact ⟨H1, cl_s (ρ := [(.k_node, .obj a), (.k_values, .obj vl)]) [fv A, fv Kd, fv S0, fc e1] (by kernel_rfl) rfl rfl rfl rfl, p1⟩
  | false =>
   show ∃ H', cf (d + 1) _ _ _ = some (.bool (holdsT σ L || holdsT σ R), H') ∧ _
   cases hl : holdsT σ L with
   | true =>
    rw [hl] at e1
    exact ⟨H1, cl_s (ρ := [(.k_node, .obj a), (.k_values, .obj vl)]) [fv A, fv A, fv Kd, fv S0, fc e1] (by kernel_rfl) rfl rfl rfl rfl, p1⟩
   | false =>
    rw [hl] at e1
    exact ⟨H2, cl_s (ρ := [(.k_node, .obj a), (.k_values, .obj vl)]) [fv A, fv A, fv Kd, fv S0, fc e1, fv Kd1, fv S1, fc e2] (by kernel_rfl) rfl rfl rfl rfl, p1.trans p2⟩
theorem var_new (H : MH) (nm : Nm) (ty : V) (slot : Int) : IsVar (H ++ [objO nm ty slot, .list [], nodeO .k_var 1 ty (H.length + 1) (.obj H.length) false]) (H.length + 2) slot :=
 ⟨1, ty, ty, H.length + 1, H.length, false, nm, ap_get _ _ 2, ap_get0 _ _, ap_get _ _ 1⟩
theorem const_new (H : MH) (t : Nat) (c : Int) (ht : IsInt H t) : IsConst (H ++ [.list [], nodeO .k_const 1 (.obj t) H.length (.int c) false]) (H.length + 1) c :=
 ⟨1, t, H.length, false, ht.pre (pre_app _ _), ap_get _ _ 1, ap_get0 _ _⟩
structure Ck where
 ns : List Int
 T : Nat
 t : Nat
 b : Nat
 nn : Nat
 nl : Nat
 x0 : Nat
 x1 : Nat
 x2 : Nat
structure Cond (c : Ck) (H : MH) : Prop where
 bd : BeadAt H
 ls : ListAt H c.ns
 ty : TysAt H c.T c.t c.b c.nn
 ti : IsInt H c.t
 nm : H[c.nl]? = some (.list [.obj c.x0, .obj c.x1, .obj c.x2])
 v0 : IsVar H c.x0 0
 v1 : IsVar H c.x1 1
 v2 : IsVar H c.x2 2
theorem good_triple (b : Bool) (x y z : Nat) : good b (.list [.obj x, .obj y, .obj z]) = true := by cases x <;> rfl
theorem Cond.kp {c : Ck} {H H' : MH} (h : Cond c H) (p : Kp true H H') : Cond c H' := ⟨p.bd h.bd, h.ls.kp p, h.ty.kp p, h.ti.kp p, p.gt _ _ h.nm (good_triple _ _ _ _), h.v0.kp p, h.v1.kp p, h.v2.kp p⟩
inductive CNode (H : MH) (k : Nat) (v : V) : Prop
 | non (h : k = 0) (e : v = .none) : CNode H k v
 | nod (T : CT) (a : Nat) (e : v = .obj a) (r : RepC H T a) (s : T.slots 3) (f : T.fine) (d : T.depth < k) : CNode H k v
theorem rangeV_one {b : Int} (h0 : 0 ≤ b) (h1 : b ≤ 1000) : rangeV [.int b] = some (stepFrom 0 1 b.toNat) := by
 show orE (if b.natAbs ≤ 1000 then _ else none) _ = _
 rw [if_pos (by omega)]; rfl
theorem BeadAt.pre {H H' : MH} (p : H <+: H') (h : BeadAt H) : BeadAt H' := by obtain ⟨j, h⟩ := h; exact ⟨j, p_get p h⟩
theorem n_node2 (n : Nat) (H : MH) (op : Nm) (pl : Int) (b : Nat) (x y : V) : cf (n + 1) (.g .k_Node) [.str op, .int pl, .obj b, .obj H.length] (H ++ [.list [x, y]]) = some (.obj (H.length + 1), H ++ [.list [x, y], nodeO op pl (.obj b) H.length .none false]) := by
 have e := n_Node4 n (H ++ [.list [x, y]]) op pl (.obj b) H.length
 rw [List.length_append, List.append_assoc] at e
 exact e
theorem mk_bin {H : MH} {T1 T2 : CT} {a1 a2 b : Nat} (isA : Bool) (r1 : RepC H T1 a1) (r2 : RepC H T2 a2) : RepC (H ++ [.list [.obj a1, .obj a2], nodeO (if isA then .k_amp else .k_OR) 2 (.obj b) H.length .none false]) (.bin isA T1 T2) (H.length + 1) :=
 ⟨2, .obj b, H.length, .none, false, a1, a2, ap_get _ _ 1, ap_get0 _ _, r1.pre (pre_app _ _), r2.pre (pre_app _ _)⟩
theorem mk_leaf {H : MH} {k : Nat} {c : Int} {op : Nm} {a1 a2 b : Nat} (ho : isRel op = true) (r1 : IsVar H a1 k) (r2 : IsConst H a2 c) : RepC (H ++ [.list [.obj a1, .obj a2], nodeO op 1 (.obj b) H.length .none false]) (.leaf op k c) (H.length + 1) :=
 ⟨1, .obj b, H.length, .none, false, a1, a2, ap_get _ _ 1, ho, ap_get0 _ _, r1.pre (pre_app _ _), r2.pre (pre_app _ _)⟩
theorem pick3 {H : MH} {c : Int} {x0 x1 x2 : Nat} (h0 : 0 ≤ c) (h1 : c < 3) (v0 : IsVar H x0 0) (v1 : IsVar H x1 1) (v2 : IsVar H x2 2) : ∃ x s, s < 3 ∧ nth [.obj x0, .obj x1, .obj x2] c = some (.obj x) ∧ IsVar H x (s : Nat) := by
 obtain ⟨k, rfl⟩ := Int.eq_ofNat_of_zero_le h0
 rcases k with _ | _ | _ | k
 ·exact ⟨x0, 0, Nat.le_of_ble_eq_true rfl, rfl, v0⟩
 ·exact ⟨x1, 1, Nat.le_of_ble_eq_true rfl, rfl, v1⟩
 ·exact ⟨x2, 2, Nat.le_of_ble_eq_true rfl, rfl, v2⟩
 ·omega
theorem pick4 {c : Int} (h0 : 0 ≤ c) (h1 : c < 4) : ∃ op, (op = .k_eq ∨ op = .k_ne ∨ op = .k_lt ∨ op = .k_ge) ∧ nth [.str .k_lt, .str .k_ge, .str .k_ne, .str .k_eq] c = some (.str op) := by
 obtain ⟨k, rfl⟩ := Int.eq_ofNat_of_zero_le h0
 rcases k with _ | _ | _ | _ | k
 ·exact ⟨.k_lt, .inr (.inr (.inl rfl)), rfl⟩
 ·exact ⟨.k_ge, .inr (.inr (.inr rfl)), rfl⟩
 ·exact ⟨.k_ne, .inr (.inl rfl), rfl⟩
 ·exact ⟨.k_eq, .inl rfl, rfl⟩
 ·omega
theorem pick2 {c : Int} : ∃ isA : Bool, nth [.str .k_amp, .str .k_OR] (c % 2) = some (.str (if isA then .k_amp else .k_OR)) := by
 rcases Int.emod_two_eq c with h | h
 ·rw [h]; exact ⟨true, rfl⟩
 ·rw [h]; exact ⟨false, rfl⟩
noncomputable def startF : Nat → IV
 | 0 => (-5, 9) | 1 => (0, 4) | 2 => (-2147483648, 2147483647) | _ => (0, 0)
noncomputable def valF (a b c : Int) : Nat → Int
 | 0 => a | 1 => b | 2 => c | _ => 0
noncomputable def slotsD : List (Int × V) := [(0, .bool true), (1, .bool true), (2, .bool true)]
theorem range_get {n k : Nat} {v : V} (h : (stepFrom 0 1 n)[k]? = some v) : k < n ∧ v = .int k := by
 have hk : k < n := by have := (List.getElem?_eq_some_iff.mp h).1; rwa [stepFrom_len] at this
 rw [stepFrom_get _ _ _ _ hk] at h
 exact ⟨hk, (Option.some.inj h).symm.trans (congrArg V.int (by omega))⟩
theorem names3 {H : MH} {n t : Nat} {nm : Nm} {P : V → MH → Prop} (k : ∀ H' x0 x1 x2 nl, H <+: H' → H'[nl]? = some (.list [.obj x0, .obj x1, .obj x2]) → IsVar H' x0 0 → IsVar H' x1 1 → IsVar H' x2 2 → P (.obj nl) H') {a b : V} : WX (cf (n + 2)) (.comp (.call (.glob .k_law_var) (.cons (.loc .k_t) (.cons (.cstr nm) (.cons (.loc .k_slot) .nil)))) .k_slot (.range (.cons (.cint (Int.ofNat 3)) .nil))) [(.k_string_of, a), (.k_types, b), (.k_t, .obj t)] H P := by
 have e0 := c_law_var n H nm t 0
 have i0 := var_new H nm (.obj t) 0
 have p0 := pre_app H [objO nm (.obj t) 0, .list [], nodeO .k_var 1 (.obj t) (H.length + 1) (.obj H.length) false]
 generalize H ++ [objO nm (.obj t) 0, .list [], nodeO .k_var 1 (.obj t) (H.length + 1) (.obj H.length) false] = H1 at e0 i0 p0
 have e1 := c_law_var n H1 nm t 1
 have i1 := var_new H1 nm (.obj t) 1
 have p1 := pre_app H1 [objO nm (.obj t) 1, .list [], nodeO .k_var 1 (.obj t) (H1.length + 1) (.obj H1.length) false]
 generalize H1 ++ [objO nm (.obj t) 1, .list [], nodeO .k_var 1 (.obj t) (H1.length + 1) (.obj H1.length) false] = H2 at e1 i1 p1
 have e2 := c_law_var n H2 nm t 2
 have i2 := var_new H2 nm (.obj t) 2
 have p2 := pre_app H2 [objO nm (.obj t) 2, .list [], nodeO .k_var 1 (.obj t) (H2.length + 1) (.obj H2.length) false]
 generalize H2 ++ [objO nm (.obj t) 2, .list [], nodeO .k_var 1 (.obj t) (H2.length + 1) (.obj H2.length) false] = H3 at e2 i2 p2
 have p3 := pre_app H3 [.list [.obj (H.length + 2), .obj (H1.length + 2), .obj (H2.length + 2)]]
 apply wx_range
 refine W2.s e0 (W2.s e1 (W2.s e2 ?_))
 exact k _ _ _ _ _ (p0.trans (p1.trans (p2.trans p3))) (app_new _ _) (i0.pre (p1.trans (p2.trans p3))) (i1.pre (p2.trans p3)) (i2.pre p3)
theorem mod2 {c : Int} {H : MH} : binV .mod (.int c) (.int 2) H = some (.int (c % 2), H) := if_pos (e := none) (show (0 : Int) < 2 by decide)
noncomputable abbrev LC : S := F_k_law_conditions_right.1.body
noncomputable def bdy : S → S
 | .seq (.forIn _ _ b) _ => b
 | s => s
noncomputable abbrev ρN (c : Ck) (nd : V) : Loc := [(.k_string_of, .obj 1), (.k_types, .obj c.T), (.k_t, .obj c.t), (.k_names, .obj c.nl), (.k_node, nd)]
theorem cond_step (n : Nat) {c : Ck} {k : Nat} {nd lap : V} {H : MH} {Q : Fl → Loc → MH → Prop} (C : Cond c H) (hnd : CNode H k nd) (go : ∀ H' a ρ', Cond c H' → CNode H' (k + 1) (.obj a) → Sub (ρN c (.obj a)) ρ' → Q .next ρ' H') : wS (cf (n + 49)) (bdy (drp 4 LC)) (put .k_lap lap (ρN c nd)) H Q := by
 refine hide fun Ψ kΨ => ?_
 obtain ⟨c4, H4, e4, c40, c41, k4⟩ := c_bead (n + 47) (lim := 3) (by decide) C.bd C.ls
 have C4 := C.kp k4
 obtain ⟨x, s, hs, hx, vx⟩ := pick3 c40 c41 C4.v0 C4.v1 C4.v2
 have k5 := Kp.app true H4 [.list [.str .k_lt, .str .k_ge, .str .k_ne, .str .k_eq]]
 have C5 := C4.kp k5
 obtain ⟨c6, H6, e6, c60, c61, k6⟩ := c_bead (n + 47) (lim := 4) (by decide) C5.bd C5.ls
 have C6 := C5.kp k6
 have g6 := k6.gt _ _ (app_new H4 (.list [.str .k_lt, .str .k_ge, .str .k_ne, .str .k_eq])) rfl
 obtain ⟨op, ho, hop⟩ := pick4 c60 c61
 obtain ⟨fs6, num6, z1, z2, z3, z4, z5, z6⟩ := C6.ty
 obtain ⟨c7, H7, e7, c70, c71, k7⟩ := c_bead (n + 47) (lim := 9) (by decide) C6.bd C6.ls
 have C7 := C6.kp k7
 have e8 := c_law_const (n + 47) H7 c.t (c7 - 2)
 have n8 := const_new H7 c.t (c7 - 2) C7.ti
 have k8 := Kp.app true H7 [.list [], nodeO .k_const 1 (.obj c.t) H7.length (.int (c7 - 2)) false]
 generalize H7 ++ [.list [], nodeO .k_const 1 (.obj c.t) H7.length (.int (c7 - 2)) false] = H8 at e8 n8 k8
 have k48 := (k5.trans k6).trans (k7.trans k8)
 have e9 := n_node2 (n + 48) H8 op 1 c.b (.obj x) (.obj (H7.length + 1))
 have r9 := mk_leaf (b := c.b) (op := op) (by rcases ho with rfl | rfl | rfl | rfl <;> rfl) (vx.kp k48) n8
 have k9 := Kp.app true H8 [.list [.obj x, .obj (H7.length + 1)], nodeO op 1 (.obj c.b) H8.length .none false]
 generalize H8 ++ [.list [.obj x, .obj (H7.length + 1)], nodeO op 1 (.obj c.b) H8.length .none false] = H9 at e9 r9 k9
 generalize H8.length + 1 = y at e9 r9
 have C9 := (C7.kp k8).kp k9
 obtain ⟨c10, H10, e10, c100, c101, k10⟩ := c_bead (n + 47) (lim := 4) (by decide) C9.bd C9.ls
 refine kΨ ?_
 have C10 := C9.kp k10
 have r10 := r9.kp k10
 have kk := k4.trans (k48.trans (k9.trans k10))
 have hfine : CT.fine (.leaf op s (c7 - 2)) := ⟨ho, by omega, by omega⟩
 have hslot : CT.slots 3 (.leaf op s (c7 - 2)) := hs
 have hdep : CT.depth (.leaf op s (c7 - 2)) = 0 := rfl
 refine w_seg 4 [fc e4, fv (sub_l C4.nm hx), fc e6, fv (sub_l g6 hop), fv (attr_s z1 z5), fc e7, fc e8, fc e9, fc e10] (y := (.next, ρN c nd ++ [(.k_lap, lap), (.k_one, .obj x), (.k_sign, .str op), (.k_test, .obj y), (.k_way, .int c10)], H10)) (by kernel_rfl) ?_
 generalize CT.leaf op s (c7 - 2) = U at r10 hfine hslot hdep
 cases hnd with
 | non hk hv =>
  subst hk hv
  refine w_seg 1 [] (y := (.next, ρN c (.obj y) ++ [(.k_lap, lap), (.k_one, .obj x), (.k_sign, .str op), (.k_test, .obj y), (.k_way, .int c10)], H10)) (by kernel_rfl) (go _ y _ C10 (.nod _ _ rfl r10 hslot hfine ?_) ?_)
  ·rw [hdep]; exact Nat.succ_pos _
  ·((repeat (apply Sub.cons; (· rfl))); exact Sub.nil)
 | nod T a hv hr hT hf hd =>
  subst hv
  have hr10 := hr.kp kk
  have k11 := Kp.app true H10 [.list [.str .k_amp, .str .k_OR]]
  have g11 := app_new H10 (O.list [.str .k_amp, .str .k_OR])
  have C11 := C10.kp k11
  have r11 := r10.kp k11
  have hr11 := hr10.kp k11
  refine hide fun Ψ kΨ => ?_
  obtain ⟨isA, hA⟩ := pick2 (c := c10)
  have s11 := sub_l g11 hA
  have m11 := mod2 (c := c10) (H := H10 ++ [.list [.str .k_amp, .str .k_OR]])
  obtain ⟨fs11, num11, w1, w2, w3, w4, w5, w6⟩ := C11.ty
  refine kΨ ?_
  have dp : max T.depth U.depth + 1 < k + 1 := Nat.succ_lt_succ (Nat.max_lt.mpr ⟨hd, hdep ▸ Nat.zero_lt_of_lt hd⟩)
  if hw : c10 < 2 then
   refine w_seg 1 [fc m11, fv s11, fv (attr_s w1 w5), fb (decide_eq_true hw), fc (n_node2 (n + 48) (H10 ++ [.list [.str .k_amp, .str .k_OR]]) (if isA then .k_amp else .k_OR) 2 c.b (.obj a) (.obj y))]
    (y := (.next, ρN c (.obj ((H10 ++ [O.list [.str .k_amp, .str .k_OR]]).length + 1)) ++ [(.k_lap, lap), (.k_one, .obj x), (.k_sign, .str op), (.k_test, .obj y), (.k_way, .int c10)], H10 ++ [.list [.str .k_amp, .str .k_OR]] ++ [.list [.obj a, .obj y], nodeO (if isA then .k_amp else .k_OR) 2 (.obj c.b) (H10 ++ [O.list [.str .k_amp, .str .k_OR]]).length .none false])) (by kernel_rfl)
    (go _ _ _ (C11.kp (.app _ _ _)) (.nod (.bin isA T U) _ rfl (mk_bin isA hr11 r11) ⟨hT, hslot⟩ ⟨hf, hfine⟩ dp) ?_)
   ((repeat (apply Sub.cons; (· rfl))); exact Sub.nil)
  else
   refine w_seg 1 [fc m11, fv s11, fv (attr_s w1 w5), fb (decide_eq_false hw), fc (n_node2 (n + 48) (H10 ++ [.list [.str .k_amp, .str .k_OR]]) (if isA then .k_amp else .k_OR) 2 c.b (.obj y) (.obj a))]
    (y := (.next, ρN c (.obj ((H10 ++ [O.list [.str .k_amp, .str .k_OR]]).length + 1)) ++ [(.k_lap, lap), (.k_one, .obj x), (.k_sign, .str op), (.k_test, .obj y), (.k_way, .int c10)], H10 ++ [.list [.str .k_amp, .str .k_OR]] ++ [.list [.obj y, .obj a], nodeO (if isA then .k_amp else .k_OR) 2 (.obj c.b) (H10 ++ [O.list [.str .k_amp, .str .k_OR]]).length .none false])) (by kernel_rfl)
    (go _ _ _ (C11.kp (.app _ _ _)) (.nod (.bin isA U T) _ rfl (mk_bin isA r11 hr11) ⟨hslot, hT⟩ ⟨hfine, hf⟩ (by show max U.depth T.depth + 1 < k + 1; rw [Nat.max_comm]; exact dp)) ?_)
   ((repeat (apply Sub.cons; (· rfl))); exact Sub.nil)
structure Asm (c : Ck) (T : CT) (a st sl w e0 : Nat) (G : MH) : Prop where
 C : Cond c G
 s : StAt G st sl w true 0 slotsD
 r : RepC G T a
 e : G[e0]? = some (.idict (dctL 3 startF))
 sl : T.slots 3
 f : T.fine
 d : T.depth ≤ 30
noncomputable abbrev ρS (c : Ck) (a st e0 : Nat) : Loc := [(.k_string_of, .obj 1), (.k_types, .obj c.T), (.k_t, .obj c.t), (.k_names, .obj c.nl), (.k_node, .obj a), (.k_st, .obj st), (.k_start, .obj e0)]
theorem cond_vals (n : Nat) {c : Ck} {a st e0 vl q : Nat} {lap : V} {t : Bool} {σ : Nat → Int} {g : Nat → IV} {H : MH} {Q : Fl → Loc → MH → Prop} (hq : H[q]? = some (.idict (dctL 3 g))) (hv : H[vl]? = some (.list [.int (σ 0), .int (σ 1), .int (σ 2)])) (hg : inE σ g) (go : ∀ ρ', Sub (ρS c a st e0) ρ' → Q .next ρ' H) : wS (cf (n + 49)) (drp 4 (bdy (drp 7 LC))) (ρS c a st e0 ++ [(.k_lap, lap), (.k_values, .obj vl), (.k_truth_now, .bool t), (.k_found, .obj q)]) H Q := by
 apply wl_rangeI
 refine ⟨_, rangeV_one (b := 3) (by decide) (by decide), fun _ ρ H' => ρS c a st e0 ++ [(.k_lap, lap), (.k_values, .obj vl), (.k_truth_now, .bool t), (.k_found, .obj q)] = ρ ∧ H = H', ⟨rfl, rfl⟩, fun _ _ _ _ => rfl, ?_, ?_⟩
 ·rintro i v' hv' _ _ ⟨rfl, rfl⟩
  obtain ⟨hi, rfl⟩ := range_get hv'
  have hd := sub_d hq (get_dctL g hi)
  have hn := sub_l hv (nth3 (f := fun i => .int (σ i)) hi)
  have hb := hg i
  refine WO.s hd (WO.s hn (wIf_dt hb.1 (WO.s hd (wIf_f (show (!decide (σ i ≤ (g i).2)) = false by rw [decide_eq_true hb.2]; rfl) ⟨_, ?_, rfl, rfl⟩))))
  ((repeat (apply Sub.cons; (· rfl))); exact Sub.nil)
 ·rintro _ _ ⟨rfl, rfl⟩
  refine go _ ?_
  ((repeat (apply Sub.cons; (· rfl))); exact Sub.nil)
theorem startF_in {b1 b2 b3 : Int} (h1 : 0 ≤ b1 ∧ b1 < 15) (h2 : 0 ≤ b2 ∧ b2 < 5) (h3 : 0 ≤ b3 ∧ b3 < 40) : inE (valF (b1 - 5) b2 (b3 - 20)) startF ∧ ∀ i, -1000 ≤ valF (b1 - 5) b2 (b3 - 20) i ∧ valF (b1 - 5) b2 (b3 - 20) i ≤ 1000 := by
 constructor
 ·intro i
  rcases i with _ | _ | _ | i
  ·exact (show -5 ≤ b1 - 5 ∧ b1 - 5 ≤ 9 by omega)
  ·exact (show 0 ≤ b2 ∧ b2 ≤ 4 by omega)
  ·exact (show -2147483648 ≤ b3 - 20 ∧ b3 - 20 ≤ 2147483647 by omega)
  ·exact ⟨Int.le_refl _, Int.le_refl _⟩
 ·intro i
  rcases i with _ | _ | _ | i
  ·exact (show -1000 ≤ b1 - 5 ∧ b1 - 5 ≤ 1000 by omega)
  ·exact (show -1000 ≤ b2 ∧ b2 ≤ 1000 by omega)
  ·exact (show -1000 ≤ b3 - 20 ∧ b3 - 20 ≤ 1000 by omega)
  ·exact (show (-1000 : Int) ≤ 0 ∧ (0 : Int) ≤ 1000 by decide)
theorem slots_has : ∀ k : Nat, k < 3 → ∃ x, get (k : Int) slotsD = some x := fun k hk => ⟨.bool true, by rcases k with _ | _ | _ | k <;> first | rfl | omega⟩
theorem cond_turn (n : Nat) {c : Ck} {T : CT} {a st sl w e0 : Nat} {lap : V} {G H : MH} {Q : Fl → Loc → MH → Prop} (A : Asm c T a st sl w e0 G) (K : Kp true G H) (go : ∀ ρ' H', Sub (ρS c a st e0) ρ' → Kp true G H' → Q .next ρ' H') : wS (cf (n + 49)) (bdy (drp 7 LC)) (put .k_lap lap (ρS c a st e0)) H Q := by
 have C0 := A.C.kp K
 have hdp := A.d
 refine hide fun Ψ kΨ => ?_
 obtain ⟨b1, H1, e4, b10, b11, k4⟩ := c_bead (n + 47) (lim := 15) (by decide) C0.bd C0.ls
 have C1 := C0.kp k4
 obtain ⟨b2, H2, e5, b20, b21, k5⟩ := c_bead (n + 47) (lim := 5) (by decide) C1.bd C1.ls
 have C2 := C1.kp k5
 obtain ⟨b3, H3, e6, b30, b31, k6⟩ := c_bead (n + 47) (lim := 40) (by decide) C2.bd C2.ls
 have g7 := app_new H3 (O.list [.int (b1 - 5), .int b2, .int (b3 - 20)])
 have K4 := (K.trans (k4.trans (k5.trans k6))).trans (Kp.app true H3 [.list [.int (b1 - 5), .int b2, .int (b3 - 20)]])
 obtain ⟨hin, hsm⟩ := startF_in ⟨b10, b11⟩ ⟨b20, b21⟩ ⟨b30, b31⟩
 generalize hσ : valF (b1 - 5) b2 (b3 - 20) = σ at hin hsm
 have g7 : (H3 ++ [.list [.int (b1 - 5), .int b2, .int (b3 - 20)]])[H3.length]? = some (.list [.int (σ 0), .int (σ 1), .int (σ 2)]) := by rw [g7, ← hσ]; rfl
 generalize hG4 : H3 ++ [.list [.int (b1 - 5), .int b2, .int (b3 - 20)]] = H4 at g7 K4
 obtain ⟨H5, e8, p8⟩ := c_holds σ H3.length T (n + 48 - T.depth) H4 a (A.r.kp K4) A.f A.sl g7
 rw [show n + 48 - T.depth + T.depth + 1 = n + 49 by omega] at e8
 have K5 := K4.trans (Kp.pre p8)
 obtain ⟨v, H6, e9, p9, o9⟩ := c_assume 3 (by decide) (D := slotsD) slots_has T (n + 42 - T.depth) H5 e0 a startF (holdsT σ T) (A.s.kp K5) (A.r.kp K5) A.sl (K5.gt _ _ A.e rfl)
 rw [show n + 42 - T.depth + T.depth + 7 = n + 49 by omega] at e9
 obtain ⟨s1, s2⟩ := bw_in hsm T A.f startF hin
 obtain ⟨g, hg1, hg2⟩ : ∃ g, (if holdsT σ T = true then (bw T startF).1 else (bw T startF).2) = some g ∧ inE σ g := by
  cases hh : holdsT σ T with
  | true => exact s1 hh
  | false => exact s2 hh
 rw [hg1] at o9
 obtain ⟨q, hq1, hq⟩ := o9
 refine kΨ ?_
 rw [hq1] at e9
 rw [← hG4] at e8
 refine w_seg 4 [fc e4, fc e5, fc e6, fc e8, fc e9] (y := (.next, ρS c a st e0 ++ [(.k_lap, lap), (.k_values, .obj H3.length), (.k_truth_now, .bool (holdsT σ T)), (.k_found, .obj q)], H6)) (by kernel_rfl) ?_
 exact cond_vals n hq (p_get p9 (p_get p8 g7)) hg2 fun ρ' s => go ρ' H6 s (K5.trans (Kp.pre p9))
theorem cond_end (n : Nat) {c : Ck} {T : CT} {a : Nat} {H : MH} (C : Cond c H) (hr : RepC H T a) (hT : T.slots 3) (hf : T.fine) (hd : T.depth ≤ 30) : wS (cf (n + 49)) (drp 5 LC) (ρN c (.obj a)) H (endQ fun v _ => v = .bool true) := by
 have k1 := Kp.app true H [.idict slotsD]
 have g1 := app_new H (O.idict slotsD)
 have e2 := n_Ranges (n + 48) (H ++ [.idict slotsD]) H.length
 have k2 := Kp.app true (H ++ [.idict slotsD]) [stO H.length ((H ++ [O.idict slotsD]).length + 1) true 0, .list []]
 have g2 := ap_get0 (H ++ [.idict slotsD]) [stO H.length ((H ++ [O.idict slotsD]).length + 1) true 0, .list []]
 refine w_seg 1 [fc e2] (y := (.next, ρN c (.obj a) ++ [(.k_st, .obj (H ++ [O.idict slotsD]).length)], (H ++ [.idict slotsD]) ++ [stO H.length ((H ++ [O.idict slotsD]).length + 1) true 0, .list []])) (by kernel_rfl) ?_
 generalize (H ++ [.idict slotsD]) ++ [stO H.length ((H ++ [O.idict slotsD]).length + 1) true 0, .list []] = G2 at k2 g2
 generalize H ++ [.idict slotsD] = G1 at k1 g1 k2 g2
 have k3 := Kp.app true G2 [.idict (dctL 3 startF)]
 refine w_seg 1 [] (y := (.next, ρS c a G1.length G2.length, G2 ++ [.idict (dctL 3 startF)])) (by kernel_rfl) ?_
 have A : Asm c T a G1.length H.length (G1.length + 1) G2.length (G2 ++ [.idict (dctL 3 startF)]) := ⟨C.kp (k1.trans (k2.trans k3)), ⟨k3.gt _ _ g2 rfl, (k2.trans k3).gt _ _ g1 rfl⟩, hr.kp (k1.trans (k2.trans k3)), app_new _ _, hT, hf, hd⟩
 show wS (cf (n + 49)) (drp 7 LC) (ρS c a G1.length G2.length) (G2 ++ [.idict (dctL 3 startF)]) _
 generalize G2 ++ [.idict (dctL 3 startF)] = G3 at A
 apply wl_rangeI
 refine ⟨_, rangeV_one (b := 4) (by decide) (by decide), fun _ ρ H2 => ρS c a G1.length G2.length = ρ ∧ Kp true G3 H2, ⟨rfl, Kp.refl _ _⟩, fun _ _ _ _ => rfl, ?_, ?_⟩
 ·rintro k v hv _ H0 ⟨rfl, K⟩
  exact cond_turn n A K fun ρ' H' s K' => ⟨_, s, rfl, K'⟩
 ·rintro _ H2 ⟨rfl, K⟩
  exact WO.s (attr_s (A.s.kp K).1 rfl) rfl
theorem c_cond (n : Nat) {H : MH} {ns : List Int} (hb : BeadAt H) (hl : ListAt H ns) : ∃ v H', cf (n + 50) (.g .k_law_conditions_right) [.obj 1] H = some (v, H') ∧ v = .bool true := by
 refine cl_run (ρ := [(.k_string_of, .obj 1)]) (P := fun v _ => v = .bool true) rfl rfl rfl ?_
 refine hide fun Ψ kΨ => ?_
 obtain ⟨H1, e1, k1, t, b, nn, ty, ti, _, _⟩ := n_Types (n + 46) H
 have ti : IsInt H1 t := ⟨_, ti⟩
 obtain ⟨fs, num, y1, y2, y3, y4, y5, y6⟩ := id ty
 refine kΨ ?_
 refine W2.s e1 (WO.s (attr_s y1 y4) ?_)
 refine names3 (n := n + 47) fun H2 x0 x1 x2 nl p2 hn v0 v1 v2 => ?_
 have C0 : Cond ⟨ns, H.length, t, b, nn, nl, x0, x1, x2⟩ H2 := ⟨(k1.bd hb).pre p2, (hl.kp k1).kp (Kp.pre (b := false) p2), ty.kp (.pre p2), ti.pre p2, hn, v0, v1, v2⟩
 show wS (cf (n + 49)) (drp 4 LC) (ρN ⟨ns, H.length, t, b, nn, nl, x0, x1, x2⟩ .none) H2 _
 generalize (⟨ns, H.length, t, b, nn, nl, x0, x1, x2⟩ : Ck) = c at C0
 refine hide fun Ψ kΨ => ?_
 obtain ⟨c3, H3, e3, c30, c31, k3⟩ := c_bead (n + 47) (lim := 31) (by decide) C0.bd C0.ls
 refine kΨ ?_
 apply wl_rangeI
 refine W2.s e3 ⟨_, rangeV_one (b := 1 + c3) (by omega) (by omega), fun k ρ H' => ∃ nd, ρN c nd = ρ ∧ Cond c H' ∧ CNode H' k nd, ⟨_, rfl, C0.kp k3, .non rfl rfl⟩, fun _ _ _ _ => rfl, ?_, ?_⟩
 ·rintro k v hv _ H' ⟨nd, rfl, C, hnd⟩
  exact cond_step n C hnd fun H' a ρ' C' hn' s => ⟨_, s, _, rfl, C', hn'⟩
 ·rintro _ H' ⟨nd, rfl, C, hnd⟩
  rw [stepFrom_len] at hnd
  cases hnd with
  | non h _ => omega
  | nod T a hv hr hT hf hd =>
   subst hv
   exact cond_end n C hr hT hf (by omega)
structure Ctx where
 B : MH
 st : Nat
 sl : Nat
 w : Nat
 el : Nat
 cnt : Nat
 f0 : Nat → IV
 ln : Nat → Nat
 top : Nat → Int
noncomputable def fldO (n : Nm) (o : O) : Option V := oI o fun _ fs => get n fs
theorem node_inj {op op' : Nm} {pl pl' : Int} {ty ty' : V} {kl kl' : Nat} {val val' : V} {s s' : Bool} (h : nodeO op pl ty kl val s = nodeO op' pl' ty' kl' val' s') : op = op' ∧ pl = pl' ∧ ty = ty' ∧ kl = kl' ∧ val = val' :=
 have f := fun n => congrArg (fldO n) h
 ⟨V.str.inj (Option.some.inj (f .k_op)), V.int.inj (Option.some.inj (f .k_place)), Option.some.inj (f .k_type), V.obj.inj (Option.some.inj (f .k_kids)), Option.some.inj (f .k_value)⟩
noncomputable def Same (o o' : O) : Prop := o' = o ∨ ∃ op pl ty kl val s s', o = nodeO op pl ty kl val s ∧ o' = nodeO op pl ty kl val s'
theorem Same.refl (o : O) : Same o o := .inl rfl
theorem Same.trans {a b c : O} (h : Same a b) (k : Same b c) : Same a c := by
 rcases h with rfl | ⟨op, pl, ty, kl, val, s, s', rfl, rfl⟩
 ·exact k
 ·rcases k with rfl | ⟨op', pl', ty', kl', val', s1, s2, h1, rfl⟩
  ·exact .inr ⟨op, pl, ty, kl, val, s, s', rfl, rfl⟩
  ·obtain ⟨rfl, rfl, rfl, rfl, rfl⟩ := node_inj h1
   exact .inr ⟨op, pl, ty, kl, val, s, s2, rfl, rfl⟩
noncomputable def Ext (B H : MH) : Prop := B.length ≤ H.length ∧ ∀ (a : Nat) (o : O), B[a]? = some o → ∃ o', H[a]? = some o' ∧ Same o o'
noncomputable def isNode : O → Bool
 | .inst c _ => decide (c = .k_Node)
 | _ => false
theorem Ext.get {B H : MH} (h : Ext B H) {a : Nat} {o : O} (e : B[a]? = some o) (n : isNode o = false) : H[a]? = some o := by
 obtain ⟨o', e', s⟩ := h.2 a o e
 rcases s with rfl | ⟨op, pl, ty, kl, val, s, s', rfl, rfl⟩
 ·exact e'
 ·cases n
theorem Ext.node {B H : MH} (h : Ext B H) {a : Nat} {op : Nm} {pl : Int} {ty : V} {kl : Nat} {val : V} {s : Bool} (e : B[a]? = some (nodeO op pl ty kl val s)) : ∃ s', H[a]? = some (nodeO op pl ty kl val s') := by
 refine hide fun Ψ kΨ => ?_
 obtain ⟨o', e', k⟩ := h.2 a _ e
 refine kΨ ?_
 rcases k with rfl | ⟨op', pl', ty', kl', val', s1, s2, h1, rfl⟩
 ·exact ⟨s, e'⟩
 ·refine hide fun Ψ kΨ => ?_
  obtain ⟨rfl, rfl, rfl, rfl, rfl⟩ := node_inj h1
  refine kΨ ?_
  exact ⟨s2, e'⟩
theorem IsVar.ext {B H : MH} (p : Ext B H) {a : Nat} {k : Int} (h : IsVar B a k) : IsVar H a k := by
 refine hide fun Ψ kΨ => ?_
 obtain ⟨pl, ty, ty', kl, v, s, nm, h1, h2, h3⟩ := h
 obtain ⟨s', h1⟩ := p.node h1
 refine kΨ ?_
 exact ⟨pl, ty, ty', kl, v, s', nm, h1, p.get h2 rfl, p.get h3 rfl⟩
theorem IsTy.ext {B H : MH} (p : Ext B H) {a : Nat} {form : Nm} {len : Int} (h : IsTy B a form len) : IsTy H a form len := by
 refine hide fun Ψ kΨ => ?_
 obtain ⟨num, size, base, fl, pl, hl, h⟩ := h
 refine kΨ ?_
 exact ⟨num, size, base, fl, pl, hl, p.get h rfl⟩
theorem IsInt.ext {B H : MH} (p : Ext B H) {a : Nat} (h : IsInt B a) : IsInt H a := h.imp fun _ h => h.ext p
theorem IsConst.ext {B H : MH} (p : Ext B H) {a : Nat} {k : Int} (h : IsConst B a k) : IsConst H a k := by
 refine hide fun Ψ kΨ => ?_
 obtain ⟨pl, t, kl, s, h1, h2, h3⟩ := h
 obtain ⟨s', h2⟩ := p.node h2
 refine kΨ ?_
 exact ⟨pl, t, kl, s', h1.ext p, h2, p.get h3 rfl⟩
inductive IsVarI (H : MH) (a : Nat) (k : Int) : Prop where
 | mk (pl : Int) (t : Nat) (ty' : V) (kl : Nat) (v : Nat) (s : Bool) (nm : Nm) (h1 : H[a]? = some (nodeO .k_var pl (.obj t) kl (.obj v) s)) (h2 : IsInt H t) (h3 : H[v]? = some (objO nm ty' k)) (h4 : H[kl]? = some (.list [])) : IsVarI H a k
theorem IsVarI.var {H : MH} {a : Nat} {k : Int} (h : IsVarI H a k) : IsVar H a k := by
 obtain ⟨pl, t, ty', kl, v, s, nm, h1, h2, h3, h4⟩ := h
 exact ⟨pl, _, ty', kl, v, s, nm, h1, h3, h4⟩
theorem IsVarI.ext {B H : MH} (p : Ext B H) {a : Nat} {k : Int} (h : IsVarI B a k) : IsVarI H a k := by
 refine hide fun Ψ kΨ => ?_
 obtain ⟨pl, t, ty', kl, v, s, nm, h1, h2, h3, h4⟩ := h
 obtain ⟨s', h1⟩ := p.node h1
 refine kΨ ?_
 exact ⟨pl, t, ty', kl, v, s', nm, h1, h2.ext p, p.get h3 rfl, p.get h4 rfl⟩
inductive Nd (H : MH) (a : Nat) (op : Nm) (val : V) (ks : List Nat) : Prop where
 | mk (pl : Int) (ty : V) (kl : Nat) (s : Bool) (h1 : H[a]? = some (nodeO op pl ty kl val s)) (h2 : H[kl]? = some (.list (ks.map V.obj))) : Nd H a op val ks
theorem Nd.ext {B H : MH} (p : Ext B H) {a : Nat} {op : Nm} {val : V} {ks : List Nat} (h : Nd B a op val ks) : Nd H a op val ks := by
 refine hide fun Ψ kΨ => ?_
 obtain ⟨pl, ty, kl, s, h1, h2⟩ := h
 obtain ⟨s', h1⟩ := p.node h1
 refine kΨ ?_
 exact ⟨pl, ty, kl, s', h1, p.get h2 rfl⟩
inductive IsTest (H : MH) (a : Nat) (k c : Int) : Prop where
 | mk (pl : Int) (b : Nat) (kl : Nat) (val : V) (s : Bool) (x : Nat) (y : Nat) (h1 : H[a]? = some (nodeO .k_le pl (.obj b) kl val s)) (h2 : IsTy H b .k_boolean 0) (h3 : H[kl]? = some (.list [.obj x, .obj y])) (h4 : IsVarI H x k) (h5 : IsConst H y c) : IsTest H a k c
theorem IsTest.ext {B H : MH} (p : Ext B H) {a : Nat} {k c : Int} (h : IsTest B a k c) : IsTest H a k c := by
 refine hide fun Ψ kΨ => ?_
 obtain ⟨pl, b, kl, val, s, x, y, h1, h2, h3, h4, h5⟩ := h
 obtain ⟨s', h1⟩ := p.node h1
 refine kΨ ?_
 exact ⟨pl, b, kl, val, s', x, y, h1, h2.ext p, p.get h3 rfl, h4.ext p, h5.ext p⟩
theorem IsTest.rel {H : MH} {a : Nat} {k c : Int} (h : IsTest H a k c) : IsRel H a .k_le k c := by
 refine hide fun Ψ kΨ => ?_
 obtain ⟨pl, b, kl, val, s, x, y, h1, h2, h3, h4, h5⟩ := h
 refine kΨ ?_
 exact ⟨pl, _, kl, val, s, x, y, h1, rfl, h3, h4.var, h5⟩
inductive IsEl (H : MH) (el cnt : Nat) : Prop where
 | mk (pl : Int) (t : Nat) (kl : Nat) (val : V) (s : Bool) (ka : Nat) (c : Nat) (pl' : Int) (row : Nat) (kl' : Nat) (v : Nat) (s' : Bool) (ty' : V) (nm : Nm) (h1 : H[el]? = some (nodeO .k_index pl (.obj t) kl val s)) (h2 : IsInt H t) (h3 : H[kl]? = some (.list [.obj ka, .obj c])) (h4 : IsVarI H c ((cnt - 1 : Nat) : Int)) (h5 : H[ka]? = some (nodeO .k_var pl' (.obj row) kl' (.obj v) s')) (h6 : IsTy H row .k_array 5) (h7 : H[v]? = some (objO nm ty' ((cnt + 1 : Nat) : Int))) (h8 : H[kl']? = some (.list [])) : IsEl H el cnt
theorem IsEl.ext {B H : MH} (p : Ext B H) {el cnt : Nat} (h : IsEl B el cnt) : IsEl H el cnt := by
 refine hide fun Ψ kΨ => ?_
 obtain ⟨pl, t, kl, val, s, ka, c, pl', row, kl', v, s', ty', nm, h1, h2, h3, h4, h5, h6, h7, h8⟩ := h
 obtain ⟨s1, h1⟩ := p.node h1
 obtain ⟨s2, h5⟩ := p.node h5
 refine kΨ ?_
 exact ⟨pl, t, kl, val, s1, ka, c, pl', row, kl', v, s2, ty', nm, h1, h2.ext p, p.get h3 rfl, h4.ext p, h5, h6.ext p, p.get h7 rfl, p.get h8 rfl⟩
noncomputable def natsV (ys : List Nat) : List V := ys.map fun (i : Nat) => V.int (i : Int)
noncomputable def Cov (cnt d : Nat) (ys : List Nat) : Prop := ∀ i, i ∈ ys ↔ d ≤ i ∧ i ≤ cnt
noncomputable def pairsV (ps : List (Nat × Nat)) : List V := ps.map fun p => V.pair (.obj p.1) (.obj p.2)
noncomputable def WOK (C : Ctx) (H : MH) : Prop := ∃ ps : List (Nat × Nat), H[C.w]? = some (.list (pairsV (ps.map fun p => (C.ln p.1, p.2)))) ∧ (ps.map (·.1)).Nodup ∧ ∀ p ∈ ps, p.1 < C.cnt ∧ p.2 ≠ C.w ∧ ∃ ys, H[p.2]? = some (.list (natsV ys)) ∧ Cov C.cnt p.1 ys
structure Inv (C : Ctx) (m : Bool) (l : Int) (H : MH) : Prop where
 ext : Ext C.B H
 st : H[C.st]? = some (stO C.sl C.w m l)
 wr : WOK C H
noncomputable def SureAt (el : Nat) (H : MH) (s : Bool) : Prop := ∃ op pl ty kl val, H[el]? = some (nodeO op pl ty kl val s)
structure Go (C : Ctx) (m : Bool) (l : Int) (sr : Option Bool) (H H' : MH) : Prop where
 inv : Inv C m l H'
 dc : ∀ (a : Nat) E, H[a]? = some (.idict E) → H'[a]? = some (.idict E)
 su : match sr with
  | none => ∀ s, SureAt C.el H s → SureAt C.el H' s
  | some s => SureAt C.el H' s
theorem Go.refl {C : Ctx} {m : Bool} {l : Int} {H : MH} (i : Inv C m l H) : Go C m l none H H := ⟨i, fun _ _ h => h, fun _ h => h⟩
theorem Go.trans {C : Ctx} {m m' : Bool} {l l' : Int} {a b : Option Bool} {H H' H'' : MH} (h : Go C m l a H H') (k : Go C m' l' b H' H'') : Go C m' l' (b.or a) H H'' := by
 refine ⟨k.inv, fun x E e => k.dc x E (h.dc x E e), ?_⟩
 have h1 := h.su
 have k1 := k.su
 cases b with
 | some s => exact k1
 | none =>
  cases a with
  | none => exact fun s q => k1 s (h1 s q)
  | some s => exact k1 s h1
theorem Ext.keep {B H H' : MH} (h : Ext B H) (k : H.length ≤ H'.length) (g : ∀ (a : Nat) (o : O), a < B.length → H[a]? = some o → ∃ o', H'[a]? = some o' ∧ Same o o') : Ext B H' := by
 refine ⟨Nat.le_trans h.1 k, fun a o e => ?_⟩
 refine hide fun Ψ kΨ => ?_
 obtain ⟨o1, e1, s1⟩ := h.2 a o e
 obtain ⟨o2, e2, s2⟩ := g a o1 (List.getElem?_eq_some_iff.mp e).1 e1
 refine kΨ ?_
 exact ⟨o2, e2, s1.trans s2⟩
noncomputable def isLst : O → Bool
 | .list _ => true
 | _ => false
theorem WOK.keep {C : Ctx} {H H' : MH} (h : WOK C H) (g : ∀ (a : Nat) (o : O), isLst o = true → H[a]? = some o → H'[a]? = some o) : WOK C H' := by
 refine hide fun Ψ kΨ => ?_
 obtain ⟨ps, h1, h2, h3⟩ := h
 refine kΨ ?_
 refine ⟨ps, g _ _ rfl h1, h2, fun p hp => ?_⟩
 refine hide fun Ψ kΨ => ?_
 obtain ⟨a1, a2, ys, a3, a4⟩ := h3 p hp
 refine kΨ ?_
 exact ⟨a1, a2, ys, g _ _ rfl a3, a4⟩
theorem Go.pre {C : Ctx} {m : Bool} {l : Int} {H H' : MH} (i : Inv C m l H) (p : H <+: H') : Go C m l none H H' := by
 refine ⟨⟨i.ext.keep p.length_le fun a o _ e => ⟨o, p_get p e, .refl _⟩, p_get p i.st, i.wr.keep fun a o _ e => p_get p e⟩, fun a E e => p_get p e, ?_⟩
 rintro s ⟨op, pl, ty, kl, val, e⟩
 exact ⟨op, pl, ty, kl, val, p_get p e⟩
theorem Go.app {C : Ctx} {m : Bool} {l : Int} {H : MH} (i : Inv C m l H) (X : MH) : Go C m l none H (H ++ X) := .pre i (pre_app _ _)
theorem get_set {H : MH} {a b : Nat} {o p q : O} (h : H[a]? = some p) (e : H[b]? = some o) : (H.set a q)[b]? = some (if a = b then q else o) := by
 by_cases x : a = b
 ·subst x; rw [if_pos rfl]; exact set_same h
 ·rw [if_neg x, List.getElem?_set, if_neg x]; exact e
theorem Go.st {C : Ctx} {m m' : Bool} {l l' : Int} {H : MH} (hs : C.B.length ≤ C.st) (i : Inv C m l H) : Go C m' l' none H (H.set C.st (stO C.sl C.w m' l')) := by
 refine ⟨⟨i.ext.keep (by simp) fun a o ha e => ⟨o, ?_, .refl _⟩, set_same i.st, i.wr.keep fun a o ho e => ?_⟩, fun a E e => ?_, ?_⟩
 ·rw [get_set i.st e, if_neg (by omega)]
 ·rw [get_set i.st e, if_neg]
  rintro rfl
  rw [i.st] at e; cases e; cases ho
 ·rw [get_set i.st e, if_neg]
  rintro rfl
  rw [i.st] at e; cases e
 ·rintro s ⟨op, pl, ty, kl, val, e⟩
  refine ⟨op, pl, ty, kl, val, ?_⟩
  rw [get_set i.st e, if_neg]
  intro x
  rw [← x, i.st] at e; cases e
theorem Go.mark {C : Ctx} {m : Bool} {l : Int} {H : MH} {a : Nat} {op : Nm} {pl : Int} {ty : V} {kl : Nat} {val : V} {s s' : Bool} (i : Inv C m l H) (h : H[a]? = some (nodeO op pl ty kl val s)) : Go C m l (if a = C.el then some s' else none) H (H.set a (nodeO op pl ty kl val s')) := by
 have hn : ∀ (b : Nat) (o : O), H[b]? = some o → isNode o = false → (H.set a (nodeO op pl ty kl val s'))[b]? = some o := fun b o e n => by
  rw [get_set h e, if_neg]
  rintro rfl
  rw [h] at e; cases e; cases n
 refine ⟨⟨i.ext.keep (by simp) fun b o hb e => ?_, hn _ _ i.st rfl, i.wr.keep fun b o ho e => hn b o e ?_⟩, fun b E e => hn _ _ e rfl, ?_⟩
 ·refine ⟨_, get_set h e, ?_⟩
  by_cases x : a = b
  ·subst x; rw [if_pos rfl]; rw [h] at e; cases e
   exact .inr ⟨op, pl, ty, kl, val, s, s', rfl, rfl⟩
  ·rw [if_neg x]; exact .refl _
 ·cases o <;> first | rfl | cases ho
 ·by_cases x : a = C.el
  ·rw [if_pos x]
   exact ⟨op, pl, ty, kl, val, x ▸ set_same h⟩
  ·rw [if_neg x]
   rintro s1 ⟨op, pl, ty, kl, val, e⟩
   refine ⟨op, pl, ty, kl, val, ?_⟩
   rw [get_set h e, if_neg x]
structure Su (C : Ctx) : Prop where
 hst : C.B.length ≤ C.st
 hw : C.B.length ≤ C.w
 hsl : C.B[C.sl]? = some (.idict (dctL (C.cnt + 1) C.f0))
 hc : 1 ≤ C.cnt ∧ C.cnt ≤ 7
 hel : IsEl C.B C.el C.cnt
 htop : ∀ d, 0 ≤ C.top d ∧ C.top d ≤ 6
 hlnn : ∀ d, d < C.cnt → ∃ op val ks, Nd C.B (C.ln d) op val ks
 hln : ∀ d d', d < C.cnt → d' < C.cnt → C.ln d = C.ln d' → d = d'
theorem Inv.at {C : Ctx} (S : Su C) {m : Bool} {l : Int} {H : MH} (i : Inv C m l H) : StAt H C.st C.sl C.w m l (dctL (C.cnt + 1) C.f0) := ⟨i.st, i.ext.get S.hsl rfl⟩
noncomputable def addI (x y : IV) : IV := clipI (x.1 + y.1) (x.2 + y.2)
noncomputable def EnvAt (C : Ctx) (H : MH) (e : Nat) (f : Nat → IV) : Prop := H[e]? = some (.idict (dctL (C.cnt + 1) f))
theorem EnvAt.go {C : Ctx} {m : Bool} {l : Int} {sr : Option Bool} {H H' : MH} {e : Nat} {f : Nat → IV} (h : EnvAt C H e f) (g : Go C m l sr H H') : EnvAt C H' e f := g.dc _ _ h
theorem EnvAt.congr {C : Ctx} {H : MH} {e : Nat} {f g : Nat → IV} (h : EnvAt C H e f) (k : ∀ i, i ≤ C.cnt → f i = g i) : EnvAt C H e g := by
 unfold EnvAt at *
 rw [h, dctL_congr (g := g) fun i hi => k i (by omega)]
theorem c_mark (n : Nat) {C : Ctx} {m : Bool} {l : Int} {H : MH} {a : Nat} {op : Nm} {pl : Int} {ty : V} {kl : Nat} {val : V} {s : Bool} (tr : Bool) (i : Inv C m l H) (h : H[a]? = some (nodeO op pl ty kl val s)) : ∃ H', cf (n + 1) (.g .k_mark) [.obj C.st, .obj a, .bool tr] H = some (.none, H') ∧ Go C m l (if m = true ∧ a = C.el then some (!tr) else none) H H' := by
 have hs := i.st
 cases m with
 | true =>
  refine ⟨_, cl_eq (ρ := [(.k_st, .obj C.st), (.k_node, .obj a), (.k_traps, .bool tr)]) rfl rfl rfl (WO.s (attr_s hs rfl) (WO.s (set_attr h rfl) ⟨rfl, rfl⟩)), ?_⟩
  have g := Go.mark (s' := !tr) i h
  if x : a = C.el then
   rw [if_pos x] at g; rw [if_pos ⟨rfl, x⟩]; exact g
  else
   rw [if_neg x] at g; rw [if_neg fun y => x y.2]; exact g
 | false =>
  refine ⟨H, cl_eq (ρ := [(.k_st, .obj C.st), (.k_node, .obj a), (.k_traps, .bool tr)]) rfl rfl rfl (WO.s (attr_s hs rfl) ⟨rfl, rfl⟩), ?_⟩
  rw [if_neg fun x => nomatch x.1]
  exact .refl i
theorem c_mark_oth (n : Nat) {C : Ctx} (S : Su C) {m : Bool} {l : Int} {H : MH} {a : Nat} {op : Nm} {pl : Int} {ty : V} {kl : Nat} {val : V} {s : Bool} (tr : Bool) (i : Inv C m l H) (h : H[a]? = some (nodeO op pl ty kl val s)) (ho : op ≠ .k_index) : ∃ H', cf (n + 1) (.g .k_mark) [.obj C.st, .obj a, .bool tr] H = some (.none, H') ∧ Go C m l none H H' := by
 obtain ⟨H', e, g⟩ := c_mark n tr i h
 rw [if_neg] at g
 ·exact ⟨H', e, g⟩
 ·rintro ⟨_, rfl⟩
  obtain ⟨pl, t, kl, val, s, _, _, _, _, _, _, _, _, _, h1, _⟩ := S.hel
  obtain ⟨s1, h1⟩ := i.ext.node h1
  exact ho (node_inj (Option.some.inj (h.symm.trans h1))).1
theorem c_mark_el (n : Nat) {C : Ctx} {m : Bool} {l : Int} {H : MH} {op : Nm} {pl : Int} {ty : V} {kl : Nat} {val : V} {s : Bool} (tr : Bool) (i : Inv C m l H) (h : H[C.el]? = some (nodeO op pl ty kl val s)) : ∃ H', cf (n + 1) (.g .k_mark) [.obj C.st, .obj C.el, .bool tr] H = some (.none, H') ∧ Go C m l (if m then some (!tr) else none) H H' := by
 obtain ⟨H', e, g⟩ := c_mark n tr i h
 refine ⟨H', e, ?_⟩
 cases m with
 | true => rw [if_pos ⟨rfl, rfl⟩] at g; exact g
 | false => rw [if_neg fun x => nomatch x.1] at g; exact g
theorem look_var (n : Nat) {C : Ctx} (S : Su C) {m : Bool} {l : Int} {H : MH} {a e k : Nat} {f : Nat → IV} (i : Inv C m l H) (ha : IsVar H a k) (he : EnvAt C H e f) (hk : k ≤ C.cnt) : cf (n + 2) (.g .k_look) [.obj C.st, .obj e, .obj a] H = some (iv (f k), H) := by
 refine hide fun Ψ kΨ => ?_
 obtain ⟨pl, ty, ty', kl, v, s, nm, h1, h2, h3⟩ := ha
 refine kΨ ?_
 exact c_look_var n H i.st h1 h2 (i.at S).2 (get_dctL C.f0 (Nat.lt_succ_of_le hk)) he (get_dctL f (Nat.lt_succ_of_le hk)) (Int.natCast_nonneg k)
theorem look_const (n : Nat) {H : MH} {st a : Nat} {k : Int} {env : V} (ha : IsConst H a k) : cf (n + 3) (.g .k_look) [.obj st, env, .obj a] H = some (iv (k, k), H) := by
 refine hide fun Ψ kΨ => ?_
 obtain ⟨pl, t, kl, s, ⟨_, h1⟩, h2, h3⟩ := ha
 refine kΨ ?_
 exact c_look_const n H h1 h2
theorem slot_var (n : Nat) {C : Ctx} (S : Su C) {m : Bool} {l : Int} {H : MH} {a k : Nat} (i : Inv C m l H) (ha : IsVar H a k) (hk : k ≤ C.cnt) : cf (n + 1) (.g .k_followed_slot) [.obj C.st, .obj a] H = some (.int k, H) :=
 fs_var n H (i.at S) ha (get_dctL C.f0 (Nat.lt_succ_of_le hk))
inductive IsAdd (H : MH) (a k : Nat) : Prop where
 | mk (pl : Int) (ty : V) (kl : Nat) (val : V) (s : Bool) (x : Nat) (y : Nat) (h1 : H[a]? = some (nodeO .k_plus pl ty kl val s)) (h2 : H[kl]? = some (.list [.obj x, .obj y])) (h3 : IsVarI H x k) (h4 : IsConst H y 1) : IsAdd H a k
theorem IsAdd.ext {B H : MH} (p : Ext B H) {a k : Nat} (h : IsAdd B a k) : IsAdd H a k := by
 refine hide fun Ψ kΨ => ?_
 obtain ⟨pl, ty, kl, val, s, x, y, h1, h2, h3, h4⟩ := h
 obtain ⟨s', h1⟩ := p.node h1
 refine kΨ ?_
 exact ⟨pl, ty, kl, val, s', x, y, h1, p.get h2 rfl, h3.ext p, h4.ext p⟩
noncomputable def stepsO : O := .sdict [(.k_plus, .g .k_add), (.k_minus, .g .k_sub), (.k_star, .g .k_mul), (.k_DIV, .g .k_div), (.k_MOD, .g .k_mod)]
theorem look_add (n : Nat) {C : Ctx} (S : Su C) {m : Bool} {l : Int} {H : MH} {a e k : Nat} {f : Nat → IV} (i : Inv C m l H) (ha : IsAdd H a k) (he : EnvAt C H e f) (hk : k ≤ C.cnt) : ∃ H', cf (n + 6) (.g .k_look) [.obj C.st, .obj e, .obj a] H = some (iv (addI (f k) (1, 1)), H') ∧ Go C m l none H H' := by
 refine hide fun Ψ kΨ => ?_
 obtain ⟨pl, ty, kl, val, s, x, y, h1, h2, h3, h4⟩ := ha
 have e1 := look_var (n + 2) S i h3.var he hk
 have e2 := look_const (n + 1) (st := C.st) (env := .obj e) h4
 have k1 := c_known (n + 3) H (f k)
 have k2 := c_known (n + 3) H (1, 1)
 have go3 := Go.app i [stepsO]
 obtain ⟨t, e4⟩ := c_add (n + 1) (H ++ [stepsO]) (f k) (1, 1)
 obtain ⟨H', e5, g5⟩ := c_mark_oth (n + 3) S t go3.inv (app_get h1) (by decide)
 refine kΨ ?_
 have ea : cf (n + 5) (.g .k_look_arithmetic) [.obj C.st, .obj e, .obj a] H = some (iv (addI (f k) (1, 1)), H') :=
  cl_eq (ρ := [(.k_st, .obj C.st), (.k_env, .obj e), (.k_node, .obj a)]) rfl rfl rfl (WO.s (attr_s h1 rfl) (WO.s (sub_l h2 rfl) (W2.s e1 (W2.s k1 (WO.s (attr_s h1 rfl) (WO.s (attr_s h1 rfl) (WO.s (sub_l h2 rfl) (W2.s e2 (W2.s k2 (WO.s (attr_s (app_get h1) rfl) (WO.s (sub_s (app_new H stepsO) rfl) (W2.s e4 (W2.s e5 ⟨rfl, rfl⟩)))))))))))))
 have es := c_fs_not (n + 4) H (st := C.st) h1 (by decide)
 exact ⟨H', cl_eq (ρ := [(.k_st, .obj C.st), (.k_env, .obj e), (.k_node, .obj a)]) rfl rfl rfl (WO.s (attr_s h1 rfl) (W2.s es (W2.s ea ⟨rfl, rfl⟩))), go3.trans g5⟩
theorem wl_look {n : Nat} {H : MH} {st e a kl : Nat} {op : Nm} {pl s0 : Int} {ty val : V} {s : Bool} {ks : List V} {Q : Fl → Loc → MH → Prop} (ha : H[a]? = some (nodeO op pl ty kl val s)) (hk : H[kl]? = some (.list ks)) (hl : ∀ v ∈ ks, ∃ r, cf n (.g .k_look) [.obj st, .obj e, v] H = some (r, H)) (k : Q .next [(.k_st, .obj st), (.k_env, .obj e), (.k_node, .obj a), (.k_op, .str op), (.k_slot, .int s0)] H) :
  WL (cf n) (.forIn .k_kid (.attr (.loc .k_node) .k_kids) (.seq (.expr (.call (.glob .k_look) (.cons (.loc .k_st) (.cons (.loc .k_env) (.cons (.loc .k_kid) .nil))))) .nil)) [(.k_st, .obj st), (.k_env, .obj e), (.k_node, .obj a), (.k_op, .str op), (.k_slot, .int s0)] H Q := by
 refine wl_in rfl (WO.s (attr_s ha rfl) ⟨ks, items_l hk, fun _ ρ H' => [(.k_st, .obj st), (.k_env, .obj e), (.k_node, .obj a), (.k_op, .str op), (.k_slot, .int s0)] = ρ ∧ H = H', ⟨rfl, rfl⟩, ?_, ?_, ?_⟩)
 ·rintro _ _ _ ⟨rfl, rfl⟩
  exact okV_of hk hk
 ·rintro i v hv _ _ ⟨rfl, rfl⟩
  obtain ⟨r, h⟩ := hl v (List.mem_of_getElem? hv)
  refine W2.s h ⟨_, ?_, rfl, rfl⟩
  ((repeat (apply Sub.cons; (· rfl))); exact Sub.nil)
 ·rintro _ _ ⟨rfl, rfl⟩
  exact k
theorem look_el (n : Nat) {C : Ctx} (S : Su C) {m : Bool} {l : Int} {H : MH} {e : Nat} {f : Nat → IV} (i : Inv C m l H) (he : EnvAt C H e f) : ∃ H', cf (n + 5) (.g .k_look) [.obj C.st, .obj e, .obj C.el] H = some (iv fullI, H') ∧ Go C m l (if m then some (withinI (f (C.cnt - 1)) (0, 4)) else none) H H' := by
 refine hide fun Ψ kΨ => ?_
 obtain ⟨pl, t, kl, val, s, ka, c, pl', row, kl', v, s', ty', nm, b1, b2, b3, b4, b5, b6, b7, b8⟩ := S.hel
 obtain ⟨s1, h1⟩ := i.ext.node b1
 have h3 := i.ext.get b3 rfl
 obtain ⟨s5, h5⟩ := i.ext.node b5
 have h6 := b6.ext i.ext
 have fs1 := c_fs_var_out (n + 1) H i.st h5 (i.ext.get b7 rfl) (i.at S).2 (get_dctL_none C.f0 (Nat.le_refl _))
 have ty1 := c_tr_oth (n + 1) H h6 rfl
 have e0 : cf (n + 3) (.g .k_look) [.obj C.st, .obj e, .obj ka] H = some (.none, H) :=
  cl_eq (ρ := [(.k_st, .obj C.st), (.k_env, .obj e), (.k_node, .obj ka)]) rfl rfl rfl (WO.s (attr_s h5 rfl) (W2.s fs1 (wl_look h5 (i.ext.get b8 rfl) (fun _ h => nomatch h) (WO.s (attr_s h5 rfl) (W2.s ty1 ⟨rfl, rfl⟩)))))
 have e1 := look_var (n + 1) S i (b4.ext i.ext).var he (Nat.sub_le _ _)
 have k1 := c_known (n + 2) H (f (C.cnt - 1))
 have w1 := c_within (n + 2) H (f (C.cnt - 1)) (0, 4)
 obtain ⟨H', e5, g5⟩ := c_mark_el (n + 2) (!withinI (f (C.cnt - 1)) (0, 4)) i h1
 rw [Bool.not_not] at g5
 obtain ⟨s6, h9⟩ := g5.inv.ext.node b1
 obtain ⟨len, h10⟩ := b2.ext g5.inv.ext
 refine kΨ ?_
 have ty2 := c_tr_int (n + 1) H' h10
 have ea : cf (n + 4) (.g .k_look_index) [.obj C.st, .obj e, .obj C.el] H = some (iv fullI, H') :=
  cl_eq (ρ := [(.k_st, .obj C.st), (.k_env, .obj e), (.k_node, .obj C.el)]) rfl rfl rfl (WO.s (attr_s h1 rfl) (WO.s (sub_l h3 rfl) (W2.s e0 (WO.s (attr_s h1 rfl) (WO.s (sub_l h3 rfl) (W2.s e1 (W2.s k1 (WO.s (attr_s h1 rfl) (WO.s (sub_l h3 rfl) (WO.s (attr_s h5 rfl) (WO.s (ty_len h6)
   (WO.s (attr_s h1 rfl) (WO.s (sub_l h3 rfl) (WO.s (attr_s h5 rfl) (WO.s (ty_attr h6) (W2.s w1 (W2.s e5 (WO.s (attr_s h9 rfl) (W2.s ty2 ⟨rfl, rfl⟩)))))))))))))))))))
 have es := c_fs_not (n + 3) H (st := C.st) h1 (by decide)
 exact ⟨H', cl_eq (ρ := [(.k_st, .obj C.st), (.k_env, .obj e), (.k_node, .obj C.el)]) rfl rfl rfl (WO.s (attr_s h1 rfl) (W2.s es (W2.s ea ⟨rfl, rfl⟩))), g5⟩
theorem look_test (n : Nat) {C : Ctx} (S : Su C) {m : Bool} {l : Int} {H : MH} {a e k : Nat} {c : Int} {f : Nat → IV} (i : Inv C m l H) (ha : IsTest H a k c) (he : EnvAt C H e f) (hk : k ≤ C.cnt) : cf (n + 4) (.g .k_look) [.obj C.st, .obj e, .obj a] H = some (.none, H) := by
 refine hide fun Ψ kΨ => ?_
 obtain ⟨pl, b, kl, val, s, x, y, h1, h2, h3, h4, h5⟩ := ha
 refine kΨ ?_
 have e1 := look_var (n + 1) S i h4.var he hk
 have e2 := look_const n (st := C.st) (env := .obj e) h5
 have ty1 := c_tr_oth (n + 2) H h2 rfl
 have es := c_fs_not (n + 2) H (st := C.st) h1 (by decide)
 refine cl_eq (ρ := [(.k_st, .obj C.st), (.k_env, .obj e), (.k_node, .obj a)]) rfl rfl rfl (WO.s (attr_s h1 rfl) (W2.s es (wl_look h1 h3 (fun v h => ?_) (WO.s (attr_s h1 rfl) (W2.s ty1 ⟨rfl, rfl⟩)))))
 rcases List.mem_cons.mp h with rfl | h
 ·exact ⟨_, e1⟩
 ·cases List.mem_singleton.mp h; exact ⟨_, e2⟩
theorem w_slot (n : Nat) {C : Ctx} (S : Su C) {H : MH} {e k : Nat} {f : Nat → IV} {v : IV} (he : EnvAt C H e f) (hk : k ≤ C.cnt) : cf (n + 2) (.g .k_with_slot) [.obj e, .int k, iv v] H = some (.obj H.length, H ++ [.idict (dctL (C.cnt + 1) (upd f k v))]) := by
 have w := c_with_slot n H (k := (k : Int)) (v := iv v) he (by rw [len_dctL]; have := S.hc; omega)
 rw [put_dctL f v (Nat.lt_succ_of_le hk)] at w
 exact w
theorem slot_ge (k : Nat) : (k : Int) ≥ 0 := Int.natCast_nonneg k
theorem run_asg (n : Nat) {C : Ctx} (S : Su C) {m : Bool} {l : Int} {H H' : MH} {a e k x y : Nat} {val : V} {v : IV} {f : Nat → IV} (i : Inv C m l H) (ha : Nd C.B a .k_assign val [x, y]) (hx : IsVarI C.B x k) (he : EnvAt C H e f) (hk : k ≤ C.cnt) (hy : cf (n + 6) (.g .k_look) [.obj C.st, .obj e, .obj y] H = some (iv v, H')) (g : Go C m l none H H') :
  ∃ H'' e', cf (n + 8) (.g .k_run) [.obj C.st, .obj e, .obj a] H = some (.obj e', H'') ∧ Go C m l none H H'' ∧ EnvAt C H'' e' (upd f k v) := by
 refine hide fun Ψ kΨ => ?_
 obtain ⟨pl3, ty3, kl3, s3, q1, q2⟩ := ha
 obtain ⟨s4, h1⟩ := i.ext.node q1
 obtain ⟨s5, h1'⟩ := g.inv.ext.node q1
 refine kΨ ?_
 have h2 := i.ext.get q2 rfl
 have h2' := g.inv.ext.get q2 rfl
 have e0 := look_var (n + 4) S i (hx.ext i.ext).var he hk
 have s1 := slot_var (n + 5) S g.inv (hx.ext g.inv.ext).var hk
 have k1 := c_known (n + 5) H' v
 have w := w_slot (n + 4) (v := v) S (he.go g) hk
 have ea : cf (n + 7) (.g .k_run_assign) [.obj C.st, .obj e, .obj a] H = some (.obj H'.length, H' ++ [.idict (dctL (C.cnt + 1) (upd f k v))]) :=
  cl_eq (ρ := [(.k_st, .obj C.st), (.k_env, .obj e), (.k_node, .obj a)]) rfl rfl rfl (WO.s (attr_s h1 rfl) (WO.s (sub_l h2 rfl) (W2.s e0 (WO.s (attr_s h1 rfl) (WO.s (sub_l h2 rfl) (W2.s hy (WO.s (attr_s h1' rfl) (WO.s (sub_l h2' rfl) (W2.s s1 (W2.s k1 (W2.s w ⟨rfl, rfl⟩)))))))))))
 exact ⟨_, _, cl_eq (ρ := [(.k_st, .obj C.st), (.k_env, .obj e), (.k_node, .obj a)]) rfl rfl rfl (WO.s (attr_s h1 rfl) (W2.s ea ⟨rfl, rfl⟩)), g.trans (.app g.inv _), app_new _ _⟩
theorem run_asg_el (n : Nat) {C : Ctx} (S : Su C) {m : Bool} {l : Int} {H : MH} {a e y : Nat} {c : Int} {val : V} {f : Nat → IV} (i : Inv C m l H) (ha : Nd C.B a .k_assign val [C.el, y]) (hy : IsConst C.B y c) (he : EnvAt C H e f) :
  ∃ H', cf (n + 8) (.g .k_run) [.obj C.st, .obj e, .obj a] H = some (.obj e, H') ∧ Go C m l (if m then some (withinI (f (C.cnt - 1)) (0, 4)) else none) H H' := by
 refine hide fun Ψ kΨ => ?_
 obtain ⟨H', e0, g⟩ := look_el (n + 1) S i he
 obtain ⟨pl3, ty3, kl3, s3, q1, q2⟩ := ha
 obtain ⟨s4, h1⟩ := i.ext.node q1
 obtain ⟨s5, h1'⟩ := g.inv.ext.node q1
 have h2 := i.ext.get q2 rfl
 have h2' := g.inv.ext.get q2 rfl
 have e1 := look_const (n + 3) (st := C.st) (env := .obj e) (hy.ext g.inv.ext)
 obtain ⟨_, _, _, _, _, _, _, _, _, _, _, _, _, _, b1, _⟩ := S.hel
 obtain ⟨s6, b1⟩ := g.inv.ext.node b1
 refine kΨ ?_
 have es := c_fs_not (n + 5) H' (st := C.st) b1 (by decide)
 have ea : cf (n + 7) (.g .k_run_assign) [.obj C.st, .obj e, .obj a] H = some (.obj e, H') :=
  cl_eq (ρ := [(.k_st, .obj C.st), (.k_env, .obj e), (.k_node, .obj a)]) rfl rfl rfl (WO.s (attr_s h1 rfl) (WO.s (sub_l h2 rfl) (W2.s e0 (WO.s (attr_s h1' rfl) (WO.s (sub_l h2' rfl) (W2.s e1 (WO.s (attr_s h1' rfl) (WO.s (sub_l h2' rfl) (W2.s es ⟨rfl, rfl⟩)))))))))
 exact ⟨H', cl_eq (ρ := [(.k_st, .obj C.st), (.k_env, .obj e), (.k_node, .obj a)]) rfl rfl rfl (WO.s (attr_s h1 rfl) (W2.s ea ⟨rfl, rfl⟩)), g⟩
theorem run_inc (n : Nat) {C : Ctx} (S : Su C) {m : Bool} {l : Int} {H : MH} {a e k x y : Nat} {f : Nat → IV} (i : Inv C m l H) (ha : Nd C.B a .k_std (.str .k_INC) [x, y]) (hx : IsVarI C.B x k) (hy : IsConst C.B y 1) (he : EnvAt C H e f) (hk : k ≤ C.cnt) :
  ∃ H'' e', cf (n + 8) (.g .k_run) [.obj C.st, .obj e, .obj a] H = some (.obj e', H'') ∧ Go C m l none H H'' ∧ EnvAt C H'' e' (upd f k (addI (f k) (1, 1))) := by
 refine hide fun Ψ kΨ => ?_
 obtain ⟨pl3, ty3, kl3, s3, q1, q2⟩ := ha
 obtain ⟨s4, h1⟩ := i.ext.node q1
 have h2 := i.ext.get q2 rfl
 have e0 := look_var (n + 3) S i (hx.ext i.ext).var he hk
 have e1 := look_const (n + 2) (st := C.st) (env := .obj e) (hy.ext i.ext)
 have k1 := c_known (n + 4) H (f k)
 have k2 := c_known (n + 4) H (1, 1)
 obtain ⟨t, e4⟩ := c_add (n + 2) H (f k) (1, 1)
 obtain ⟨plx, tx, tyx, klx, vx, sx, nmx, x1, ⟨len, x2⟩, x3, x4⟩ := hx.ext i.ext
 obtain ⟨H', e5, g5⟩ := c_mark_oth (n + 4) S t i h1 (by decide)
 obtain ⟨s5, h1'⟩ := g5.inv.ext.node q1
 refine kΨ ?_
 have h2' := g5.inv.ext.get q2 rfl
 have s1 := slot_var (n + 4) S g5.inv (hx.ext g5.inv.ext).var hk
 have w := w_slot (n + 3) (v := addI (f k) (1, 1)) S (he.go g5) hk
 have ea : cf (n + 6) (.g .k_run_step) [.obj C.st, .obj e, .obj a] H = some (.obj H'.length, H' ++ [.idict (dctL (C.cnt + 1) (upd f k (addI (f k) (1, 1))))]) := by
  refine cl_eq (ρ := [(.k_st, .obj C.st), (.k_env, .obj e), (.k_node, .obj a)]) rfl rfl rfl (WO.s (attr_s h1 rfl) (WO.s (sub_l h2 rfl) (W2.s e0 (WO.s (attr_s h1 rfl) (WO.s (sub_l h2 rfl) (W2.s e1 (W2.s k2 (WO.s (attr_s h1 rfl) (W2.s k1 (W2.s e4 ?_))))))))))
  cases t with
  | true => exact W2.s e5 (WO.s (attr_s h1' rfl) (WO.s (sub_l h2' rfl) (W2.s s1 (W2.s w ⟨rfl, rfl⟩))))
  | false => exact WO.s (attr_s h1 rfl) (WO.s (sub_l h2 rfl) (WO.s (attr_s x1 rfl) (WO.s (ty_attr x2) (W2.s e5 (WO.s (attr_s h1' rfl) (WO.s (sub_l h2' rfl) (W2.s s1 (W2.s w ⟨rfl, rfl⟩))))))))
 have eb : cf (n + 7) (.g .k_run_std) [.obj C.st, .obj e, .obj a] H = some (.obj H'.length, H' ++ [.idict (dctL (C.cnt + 1) (upd f k (addI (f k) (1, 1))))]) :=
  cl_eq (ρ := [(.k_st, .obj C.st), (.k_env, .obj e), (.k_node, .obj a)]) rfl rfl rfl (WO.s (attr_s h1 rfl) (W2.s ea ⟨rfl, rfl⟩))
 exact ⟨_, _, cl_eq (ρ := [(.k_st, .obj C.st), (.k_env, .obj e), (.k_node, .obj a)]) rfl rfl rfl (WO.s (attr_s h1 rfl) (W2.s eb ⟨rfl, rfl⟩)), g5.trans (.app g5.inv _), app_new _ _⟩
inductive Dfs (H : MH) : List Nat → List Nat → Prop
 | nil : Dfs H [] []
 | cons {a : Nat} {op : Nm} {val : V} {ks rest out : List Nat} : Nd H a op val ks → Dfs H (ks ++ rest) out → Dfs H (a :: rest) (a :: out)
theorem Dfs.ext {B H : MH} (p : Ext B H) {s o : List Nat} (h : Dfs B s o) : Dfs H s o := by
 induction h with
 | nil => exact .nil
 | cons h _ ih => exact .cons (h.ext p) ih
theorem Dfs.len {H : MH} {s o : List Nat} (h : Dfs H s o) : s.length ≤ o.length := by
 induction h with
 | nil => exact Nat.le_refl _
 | cons _ _ ih =>
  rw [List.length_append] at ih
  exact Nat.succ_le_succ (Nat.le_trans (Nat.le_add_left _ _) ih)
theorem meth_l {H : MH} {i : Nat} {xs : List V} {n : Nm} (h : H[i]? = some (.list xs)) (hn : n = .k_append ∨ n = .k_pop ∨ n = .k_insert) : methOf H (.obj i) n = some none := by
 show o1 H[i]? _ = _
 rw [h]
 exact if_pos hn
theorem app_l {H : MH} {i : Nat} {xs : List V} {v : V} (h : H[i]? = some (.list xs)) (hl : xs.length < 100000) : listM i .k_append [v] H = some (.none, H.set i (.list (xs ++ [v]))) := by
 show o1 H[i]? _ = _
 rw [h]
 exact if_pos hl
theorem pop_l {H : MH} {i : Nat} {xs : List V} {v : V} (h : H[i]? = some (.list xs)) (hl : xs.getLast? = some v) : listM i .k_pop [] H = some (v, H.set i (.list xs.dropLast)) := by
 show o1 H[i]? _ = _
 rw [h]
 show o1 xs.getLast? _ = _
 rw [hl]; rfl
noncomputable def wA (H : MH) : Nat := (H ++ [O.list []]).length
noncomputable def wHeap (H : MH) (p s : List Nat) : MH := (H ++ [O.list (p.map V.obj)]) ++ [O.list (s.reverse.map V.obj)]
theorem wA_eq (H : MH) (p : List Nat) : wA H = (H ++ [O.list (p.map V.obj)]).length := by unfold wA; rw [List.length_append, List.length_append]; rfl
theorem wH_1 (H : MH) (p s : List Nat) : (wHeap H p s)[H.length]? = some (.list (p.map V.obj)) := app_get (app_new _ _)
theorem wH_2 (H : MH) (p s : List Nat) : (wHeap H p s)[wA H]? = some (.list (s.reverse.map V.obj)) := by rw [wA_eq H p]; exact app_new _ _
theorem wH_pre (H : MH) (p s : List Nat) : H <+: wHeap H p s := (pre_app H [O.list (p.map V.obj)]).trans (pre_app _ _)
theorem wH_set (H : MH) (p s s' : List Nat) : (wHeap H p s).set (wA H) (.list (s'.reverse.map V.obj)) = wHeap H p s' := by rw [wA_eq H p]; exact app_set _ _ _
theorem wH_pop (H : MH) (p s : List Nat) (x : Nat) : listM (wA H) .k_pop [] (wHeap H p (x :: s)) = some (.obj x, wHeap H p s) := by
 have e : ((x :: s).reverse.map V.obj) = s.reverse.map V.obj ++ [V.obj x] := by rw [List.reverse_cons, List.map_append]; rfl
 rw [pop_l (v := .obj x) (wH_2 H p (x :: s)) (by rw [e]; exact List.getLast?_concat), e, List.dropLast_concat, wH_set]
theorem wH_app (H : MH) (p s : List Nat) (x : Nat) (h : p.length < 100000) : listM H.length .k_append [.obj x] (wHeap H p s) = some (.none, wHeap H (p ++ [x]) s) := by
 have e : (p ++ [x]).map V.obj = p.map V.obj ++ [V.obj x] := List.map_append
 have hl : H.length < (H ++ [O.list (p.map V.obj)]).length := by rw [List.length_append]; exact Nat.lt_succ_self _
 rw [app_l (wH_1 H p s) (by rw [List.length_map]; exact h), ← e]
 unfold wHeap
 rw [List.set_append_left _ _ hl, app_set]
theorem wH_push (H : MH) (p s : List Nat) (x : Nat) (h : s.length < 100000) : listM (wA H) .k_append [.obj x] (wHeap H p s) = some (.none, wHeap H p (x :: s)) := by
 have e : s.reverse.map V.obj ++ [V.obj x] = ((x :: s).reverse.map V.obj) := by rw [List.reverse_cons, List.map_append]; rfl
 rw [app_l (wH_2 H p s) (by rw [List.length_map, List.length_reverse]; exact h), e, wH_set]
inductive NI (H : MH) (a : Nat) (out : List Nat) (j : Nat) (ρ : Loc) (H' : MH) : Prop
 | mk (pre stack o : List Nat) (hρ : [(.k_node, .obj a), (.k_found, .obj H.length), (.k_waiting, .obj (wA H))] = ρ) (ho : pre ++ o = out) (hd : Dfs H stack o) (hj : o.length = j) (hH : wHeap H pre stack = H') : NI H a out j ρ H'
theorem c_nodes_of (n : Nat) {H : MH} {a : Nat} {out : List Nat} (h : Dfs H [a] out) (hl : out.length < 400) : cf (n + 2) (.g .k_nodes_of) [.obj a] H = some (.obj H.length, wHeap H out []) := by
 refine cl_eq (ρ := [(.k_node, .obj a)]) rfl rfl rfl ?_
 refine w_seg 3 [fm (meth_l (n := .k_append) (wH_2 H [] []) (.inl rfl)), fc (wH_push H [] [] a (Nat.le_of_ble_eq_true rfl))] (y := (.next, [(.k_node, .obj a), (.k_found, .obj H.length), (.k_waiting, .obj (wA H))], wHeap H [] [a])) (by kernel_rfl) ?_
 refine wl_whl (NI H a out) ?_ (j := out.length) (Nat.lt_of_lt_of_le hl (Nat.le_of_ble_eq_true rfl)) ⟨[], [a], out, rfl, rfl, h, rfl, rfl⟩
 rintro j _ _ ⟨pre, stack, o, rfl, ho, hd, rfl, rfl⟩
 have e1 := cf_len n (wH_2 H pre stack)
 rw [List.length_map, List.length_reverse] at e1
 refine W2.s e1 ?_
 cases hd with
 | nil =>
  refine ⟨(fun x => Bool.noConfusion (show false = true from x)), fun _ => ?_⟩
  rw [List.append_nil] at ho
  subst ho
  exact ⟨rfl, rfl⟩
 | cons hn hd =>
  rename_i x op val ks rest o
  obtain ⟨pl, ty, kl, s, n1, n2⟩ := hn
  have hol : pre.length + (o.length + 1) = out.length := by rw [← ho, List.length_append]; rfl
  have hdl := hd.len
  rw [List.length_append] at hdl
  refine ⟨fun _ => ⟨o.length, rfl, ?_⟩, (fun x => (of_decide_eq_false x (Int.ofNat_lt.mpr (Nat.succ_pos rest.length))).elim)⟩
  refine w_seg 2 [fm (meth_l (n := .k_pop) (wH_2 H pre (x :: rest)) (.inr (.inl rfl))), fc (wH_pop H pre rest x), fm (meth_l (n := .k_append) (wH_1 H pre rest) (.inl rfl)), fc (wH_app H pre rest x (by omega))] (y := (.next, [(.k_node, .obj a), (.k_found, .obj H.length), (.k_waiting, .obj (wA H)), (.k_one, .obj x)], wHeap H (pre ++ [x]) rest)) (by kernel_rfl) ?_
  have q2 := fun s => p_get (wH_pre H (pre ++ [x]) s) n2
  refine wl_rev (WO.s (attr_s (p_get (wH_pre H (pre ++ [x]) rest) n1) rfl) ⟨kl, ks.map V.obj, rfl, q2 _, fun k ρ H' => [(.k_node, .obj a), (.k_found, .obj H.length), (.k_waiting, .obj (wA H)), (.k_one, .obj x)] = ρ ∧ wHeap H (pre ++ [x]) ((ks.reverse.take k).reverse ++ rest) = H', ⟨rfl, rfl⟩, ?_, ?_, ?_⟩)
  ·rintro k _ _ ⟨rfl, rfl⟩
   exact okV_of (q2 _) (q2 _)
  ·rintro k v hv _ _ ⟨rfl, rfl⟩
   rw [← List.map_reverse, List.getElem?_map] at hv
   obtain ⟨y, hy, rfl⟩ := Option.map_eq_some_iff.mp hv
   have a2 := wH_push H (pre ++ [x]) ((ks.reverse.take k).reverse ++ rest) y (by rw [List.length_append, List.length_reverse, List.length_take, List.length_reverse]; omega)
   have e2 : y :: ((ks.reverse.take k).reverse ++ rest) = (ks.reverse.take (k + 1)).reverse ++ rest := by
    rw [List.take_add_one, hy, List.reverse_append]; rfl
   rw [e2] at a2
   refine w_seg 1 [fm (meth_l (n := .k_append) (wH_2 H (pre ++ [x]) ((ks.reverse.take k).reverse ++ rest)) (.inl rfl)), fc a2] (y := (.next, [(.k_node, .obj a), (.k_found, .obj H.length), (.k_waiting, .obj (wA H)), (.k_one, .obj x), (.k_kid, .obj y)], wHeap H (pre ++ [x]) ((ks.reverse.take (k + 1)).reverse ++ rest))) (by kernel_rfl) ⟨_, ?_, rfl, rfl⟩
   ((repeat (apply Sub.cons; (· rfl))); exact Sub.nil)
  ·rintro _ _ ⟨rfl, rfl⟩
   refine ⟨rfl, _, ?_, pre ++ [x], ks ++ rest, o, rfl, ?_, hd, rfl, ?_⟩
   ·((repeat (apply Sub.cons; (· rfl))); exact Sub.nil)
   ·rw [List.append_assoc]; exact ho
   ·rw [List.length_reverse, List.length_map, ← List.length_reverse (as := ks), List.take_length, List.reverse_reverse]
noncomputable def wkOp (op : Nm) : Bool := decide (op ∈ [Nm.k_assign, .k_for, .k_std, .k_call])
inductive Wk (C : Ctx) (a : Nat) : Option Nat → Prop
 | var (k : Nat) (op : Nm) (val : V) (x : Nat) (ks : List Nat) (hk : k ≤ C.cnt) (hn : Nd C.B a op val (x :: ks)) (hx : IsVar C.B x k) (ho : op = .k_assign ∨ op = .k_for ∨ (op = .k_std ∧ val = .str .k_INC)) : Wk C a (some k)
 | oth (op : Nm) (val : V) (ks : List Nat) (hn : Nd C.B a op val ks) (ho : wkOp op = false) : Wk C a none
 | el (val : V) (ks : List Nat) (hn : Nd C.B a .k_assign val (C.el :: ks)) : Wk C a none
noncomputable def SubL (C : Ctx) (ks : List Nat) (qs : List (Nat × Option Nat)) : Prop := (∀ rest out, Dfs C.B rest out → Dfs C.B (ks ++ rest) (qs.map (·.1) ++ out)) ∧ ∀ q ∈ qs, Wk C q.1 q.2
theorem SubL.nil (C : Ctx) : SubL C [] [] := ⟨fun _ _ h => h, fun _ h => nomatch h⟩
theorem SubL.app {C : Ctx} {k1 k2 : List Nat} {q1 q2 : List (Nat × Option Nat)} (h1 : SubL C k1 q1) (h2 : SubL C k2 q2) : SubL C (k1 ++ k2) (q1 ++ q2) := by
 refine ⟨fun rest out h => ?_, fun q hq => ?_⟩
 ·rw [List.append_assoc, List.map_append, List.append_assoc]
  exact h1.1 _ _ (h2.1 _ _ h)
 ·rcases List.mem_append.mp hq with hq | hq
  ·exact h1.2 q hq
  ·exact h2.2 q hq
theorem SubL.node {C : Ctx} {a : Nat} {op : Nm} {val : V} {ks : List Nat} {qs : List (Nat × Option Nat)} {o : Option Nat} (hn : Nd C.B a op val ks) (h : SubL C ks qs) (hw : Wk C a o) : SubL C [a] ((a, o) :: qs) := by
 refine ⟨fun rest out hd => .cons hn (h.1 _ _ hd), fun q hq => ?_⟩
 rcases List.mem_cons.mp hq with rfl | hq
 ·exact hw
 ·exact h.2 q hq
theorem SubL.dfs {C : Ctx} {ks : List Nat} {qs : List (Nat × Option Nat)} (h : SubL C ks qs) : Dfs C.B ks (qs.map (·.1)) := by
 have := h.1 [] [] .nil
 rwa [List.append_nil, List.append_nil] at this
noncomputable def CovQ (C : Ctx) (d : Nat) (qs : List (Nat × Option Nat)) : Prop := ∀ i, (∃ q ∈ qs, q.2 = some i) ↔ d ≤ i ∧ i ≤ C.cnt
noncomputable def LoopQ (C : Ctx) (d : Nat) : Prop := d < C.cnt ∧ ∃ qs, SubL C [C.ln d] qs ∧ CovQ C d qs ∧ qs.length < 300
theorem memInts_nats (i : Nat) : ∀ ys : List Nat, memInts (i : Int) (natsV ys) = some (decide (i ∈ ys))
 | [] => congrArg some (decide_eq_false (List.not_mem_nil (a := i))).symm
 | y :: ys => by
  show o1 (memInts i (natsV ys)) _ = _
  rw [memInts_nats i ys]
  show some (decide ((y : Int) = i) || decide (i ∈ ys)) = _
  rw [← Bool.decide_or]
  refine congrArg some (decide_eq_decide.mpr ?_)
  rw [List.mem_cons, Int.natCast_inj, eq_comm]
theorem notin_l {H : MH} {f j : Nat} {ys : List Nat} (h : H[f]? = some (.list (natsV ys))) : cmpV H .notIn (.int j) (.obj f) = some (!decide (j ∈ ys)) := by
 show o1 H[f]? _ = _
 rw [h]
 show o1 (memInts j (natsV ys)) _ = _
 rw [memInts_nats]; rfl
theorem eq_o {H : MH} {i j : Nat} {c : Nm} {f g : List (Nm × V)} (h : H[i]? = some (.inst c f)) (k : H[j]? = some (.inst c g)) : cmpV H .eq (.obj i) (.obj j) = some (decide (i = j)) := by
 show o1 H[i]? _ = _
 rw [h]
 show o1 H[j]? _ = _
 rw [k]
 exact if_pos rfl
theorem nodup_le {ps : List Nat} {n : Nat} (h : ps.Nodup) (k : ∀ p ∈ ps, p < n) : ps.length ≤ n := by
 have hs : ps ⊆ List.range n := fun p hp => List.mem_range.mpr (k p hp)
 have := h.length_le_of_subset hs
 rwa [List.length_range] at this
theorem Go.all {C : Ctx} {m : Bool} {l : Int} {H H' : MH} (i : Inv C m l H) (hl : H.length ≤ H'.length) (h : ∀ (a : Nat) (o : O), H[a]? = some o → H'[a]? = some o) : Go C m l none H H' := by
 refine ⟨⟨i.ext.keep hl fun a o _ e => ⟨o, h _ _ e, .refl _⟩, h _ _ i.st, i.wr.keep fun a o _ e => h _ _ e⟩, fun a E e => h _ _ e, ?_⟩
 rintro s ⟨op, pl, ty, kl, val, e⟩
 exact ⟨op, pl, ty, kl, val, h _ _ e⟩
theorem lt_of_get {H : MH} {a : Nat} {o : O} (h : H[a]? = some o) : a < H.length := (List.getElem?_eq_some_iff.mp h).1
theorem Go.wadd {C : Ctx} (Z : Su C) {m : Bool} {l : Int} {H : MH} (i : Inv C m l H) {ps : List (Nat × Nat)} (h1 : H[C.w]? = some (.list (pairsV (ps.map fun p => (C.ln p.1, p.2))))) (h2 : (ps.map (·.1)).Nodup) (h3 : ∀ p ∈ ps, p.1 < C.cnt ∧ p.2 ≠ C.w ∧ ∃ ys, H[p.2]? = some (.list (natsV ys)) ∧ Cov C.cnt p.1 ys)
  {d x : Nat} {ys : List Nat} (hd : d < C.cnt) (hx : x ≠ C.w) (hy : H[x]? = some (.list (natsV ys))) (hc : Cov C.cnt d ys) (hn : ∀ p ∈ ps, p.1 ≠ d) : Go C m l none H (H.set C.w (.list (pairsV (ps.map fun p => (C.ln p.1, p.2)) ++ [.pair (.obj (C.ln d)) (.obj x)]))) := by
 have ne : ∀ (a : Nat) (o : O), H[a]? = some o → a ≠ C.w → (H.set C.w (.list (pairsV (ps.map fun p => (C.ln p.1, p.2)) ++ [.pair (.obj (C.ln d)) (.obj x)])))[a]? = some o := fun a o e n => by
  rw [get_set h1 e, if_neg (fun h => n h.symm)]
 refine ⟨⟨i.ext.keep (by simp) fun a o ha e => ⟨o, ne a o e (by have := Z.hw; omega), .refl _⟩, ne _ _ i.st ?_, ps ++ [(d, x)], ?_, ?_, ?_⟩, fun a E e => ne a _ e ?_, ?_⟩
 ·intro h; have := i.st; rw [h, h1] at this; cases this
 ·rw [set_same h1]; simp [pairsV]
 ·rw [List.map_append, List.nodup_append]
  refine ⟨h2, by simp, ?_⟩
  intro a ha b hb
  simp only [List.map_cons, List.map_nil, List.mem_singleton] at hb
  subst hb
  refine hide fun Ψ kΨ => ?_
  obtain ⟨p, hp, rfl⟩ := List.mem_map.mp ha
  refine kΨ ?_
  exact hn p hp
 ·intro p hp
  rcases List.mem_append.mp hp with hp | hp
  ·refine hide fun Ψ kΨ => ?_
   obtain ⟨a1, a2, ys, a3, a4⟩ := h3 p hp
   refine kΨ ?_
   exact ⟨a1, a2, ys, ne _ _ a3 a2, a4⟩
  ·rw [List.mem_singleton] at hp; subst hp
   exact ⟨hd, hx, ys, ne _ _ hy hx, hc⟩
 ·intro h; rw [h, h1] at e; cases e
 ·rintro s ⟨op, pl, ty, kl, val, e⟩
  refine ⟨op, pl, ty, kl, val, ne _ _ e ?_⟩
  intro h; rw [h, h1] at e; cases e
inductive WrP (C : Ctx) (m : Bool) (l : Int) (H : MH) (d : Nat) (v : V) (H' : MH) : Prop
 | mk (x : Nat) (ys : List Nat) (hv : v = .obj x) (g : Go C m l none H H') (hx : H'[x]? = some (.list (natsV ys))) (hc : Cov C.cnt d ys) : WrP C m l H d v H'
noncomputable def wρ (C : Ctx) (d f : Nat) : Loc := [(.k_st, .obj C.st), (.k_node, .obj (C.ln d)), (.k_found, .obj f)]
inductive WI (C : Ctx) (d f : Nat) (H2 : MH) (qs : List (Nat × Option Nat)) (k : Nat) (ρ : Loc) (H3 : MH) : Prop
 | mk (ys : List Nat) (hρ : wρ C d f = ρ) (hH : H2.set f (.list (natsV ys)) = H3) (hl : ys.length ≤ k) (hy : ∀ i, i ∈ ys ↔ ∃ q ∈ qs.take k, q.2 = some i) : WI C d f H2 qs k ρ H3
theorem take_mem {qs : List (Nat × Option Nat)} {k : Nat} {q : Nat × Option Nat} (hq : qs[k]? = some q) (i : Nat) : (∃ q' ∈ qs.take (k + 1), q'.2 = some i) ↔ (∃ q' ∈ qs.take k, q'.2 = some i) ∨ q.2 = some i := by
 rw [List.take_add_one, hq]
 constructor
 ·rintro ⟨q', h, h2⟩
  rcases List.mem_append.mp h with h | h
  ·exact .inl ⟨q', h, h2⟩
  ·cases List.mem_singleton.mp h; exact .inr h2
 ·rintro (⟨q', h, h2⟩ | h)
  ·exact ⟨q', List.mem_append_left _ h, h2⟩
  ·exact ⟨q, List.mem_append_right _ (List.mem_singleton.mpr rfl), h⟩
noncomputable def wBody : S := match drp 2 F_k_written_slots.1.body with
 | .seq (.forIn _ _ b) _ => b
 | _ => .nil
noncomputable def wThen : S := match wBody with
 | .seq (.ifs _ b _) _ => b
 | _ => .nil
theorem w_turn (n : Nat) {C : Ctx} (Z : Su C) {m : Bool} {l : Int} {d f k : Nat} {H2 H3 : MH} {qs : List (Nat × Option Nat)} {ys : List Nat} {q : Nat × Option Nat} (f2 : H2[f]? = some (.list (natsV []))) (hH : H2.set f (.list (natsV ys)) = H3) (i3 : Inv C m l H3) (hl : ys.length ≤ k) (hk : k < 300) (hy : ∀ i, i ∈ ys ↔ ∃ q ∈ qs.take k, q.2 = some i) (hq : qs[k]? = some q) (hw : Wk C q.1 q.2) {Q : Fl → Loc → MH → Prop} (hQ : ∀ ρ'' ρ' H', Sub ρ'' ρ' → WI C d f H2 qs (k + 1) ρ'' H' → Q .next ρ' H') : wS (cf (n + 3)) wBody (put .k_one (.obj q.1) (wρ C d f)) H3 Q := by
 have hm := take_mem hq
 have hfd : H3[f]? = some (.list (natsV ys)) := hH ▸ set_same f2
 obtain ⟨a, o⟩ := q
 have keep : (∀ i, o ≠ some i ∨ i ∈ ys) → ∀ ρ', Sub (wρ C d f) ρ' → Q .next ρ' H3 := fun h ρ' hs => hQ _ _ _ hs ⟨ys, rfl, hH, Nat.le_succ_of_le hl, fun i => by
  rw [hm, ← hy]
  constructor
  ·exact .inl
  ·rintro (h2 | h2)
   ·exact h2
   ·exact (h i).resolve_left (fun e => e h2)⟩
 cases hw with
 | oth op val ks hn ho =>
  refine hide fun Ψ kΨ => ?_
  obtain ⟨pl, ty, kl, s, b1, b2⟩ := hn
  obtain ⟨s', n1⟩ := i3.ext.node b1
  refine kΨ ?_
  have ho := of_decide_eq_false ho
  have o1 : decide (op ∈ [Nm.k_assign, .k_for]) = false := decide_eq_false fun h => ho (by
   rcases List.mem_cons.mp h with rfl | h
   ·exact .head _
   ·exact .tail _ (by rw [List.mem_singleton.mp h]; exact .head _))
  have o2 : ¬ op = .k_std := by rintro rfl; exact ho (.tail _ (.tail _ (.head _)))
  refine WO.s (attr_s n1 rfl) (wIf_f (show (false ^^ decide (op ∈ [Nm.k_assign, .k_for])) = false by rw [o1]; rfl) (WO.s (attr_s n1 rfl) (wIf_df o2 (keep (fun i => .inl (fun e => nomatch e)) _ ?_))))
  ((repeat (apply Sub.cons; (· rfl))); exact Sub.nil)
 | el val ks hn =>
  refine hide fun Ψ kΨ => ?_
  obtain ⟨pl, ty, kl, s, b1, b2⟩ := hn
  obtain ⟨s', n1⟩ := i3.ext.node b1
  have n2 := i3.ext.get b2 rfl
  obtain ⟨_, _, _, _, _, _, _, _, _, _, _, _, _, _, e1, _⟩ := Z.hel
  obtain ⟨s3, e1⟩ := i3.ext.node e1
  refine kΨ ?_
  have es := c_fs_not (n + 2) H3 (st := C.st) e1 (by decide)
  refine w_seg 1 [fv (attr_s (n := .k_op) n1 rfl), fv (attr_s (n := .k_kids) n1 rfl), fv (sub_l (k := 0) n2 rfl), fc es, fb (o := decide ((-1 : Int) ≥ 0)) rfl] (y := (.next, put .k_slot (.int (-1)) (put .k_one (.obj a) (wρ C d f)), H3)) (by kernel_rfl) (keep (fun i => .inl (fun e => nomatch e)) _ ?_)
  ((repeat (apply Sub.cons; (· rfl))); exact Sub.nil)
 | var j op val x ks hj hn hx ho =>
  refine hide fun Ψ kΨ => ?_
  obtain ⟨pl, ty, kl, s, b1, b2⟩ := hn
  obtain ⟨s', n1⟩ := i3.ext.node b1
  refine kΨ ?_
  have n2 := i3.ext.get b2 rfl
  have es := slot_var (n + 2) Z i3 (hx.ext i3.ext) hj
  have t : ∀ Q2 : Fl → Loc → MH → Prop, (∀ ρ' H', Q .next ρ' H' → Q2 .next ρ' H') → wS (cf (n + 3)) wThen (put .k_one (.obj a) (wρ C d f)) H3 Q2 := fun Q2 hT => by
   if hc : j ∈ ys then
    refine w_seg 2 [fv (attr_s (n := .k_kids) n1 rfl), fv (sub_l (k := 0) n2 rfl), fc es, fb (decide_eq_true (slot_ge j)), ft ((notin_l hfd).trans (congrArg (fun b => some (!b)) (decide_eq_true hc)))] (y := (.next, put .k_slot (.int j) (put .k_one (.obj a) (wρ C d f)), H3)) (by kernel_rfl) (hT _ _ (keep (fun i => ?_) _ ?_))
    ·if e : j = i then exact .inr (e ▸ hc) else exact .inl (fun h => e (Option.some.inj h))
    ·((repeat (apply Sub.cons; (· rfl))); exact Sub.nil)
   else
    refine w_seg 2 [fv (attr_s (n := .k_kids) n1 rfl), fv (sub_l (k := 0) n2 rfl), fc es, fb (decide_eq_true (slot_ge j)), ft ((notin_l hfd).trans (congrArg (fun b => some (!b)) (decide_eq_false hc))), fm (meth_l (n := .k_append) hfd (.inl rfl)), fc (app_l (v := .int j) hfd (by unfold natsV; rw [List.length_map]; omega))] (y := (.next, put .k_slot (.int j) (put .k_one (.obj a) (wρ C d f)), H3.set f (.list (natsV ys ++ [.int j])))) (by kernel_rfl) (hT _ _ (hQ (wρ C d f) _ _ ?_ ⟨ys ++ [j], rfl, ?_, ?_, fun i => ?_⟩))
    ·((repeat (apply Sub.cons; (· rfl))); exact Sub.nil)
    ·rw [← hH, set_set']; exact congrArg (fun l => H2.set f (.list l)) List.map_append
    ·rw [List.length_append]; exact Nat.succ_le_succ hl
    ·rw [hm, ← hy, List.mem_append, List.mem_singleton]
     exact or_congr Iff.rfl ⟨fun e => congrArg some e.symm, fun e => (Option.some.inj e).symm⟩
  rcases ho with rfl | rfl | ⟨rfl, rfl⟩
  ·exact WO.s (attr_s n1 rfl) (t _ fun _ _ h => h)
  ·exact WO.s (attr_s n1 rfl) (t _ fun _ _ h => h)
  ·exact WO.s (attr_s n1 rfl) (WO.s (attr_s n1 rfl) (WO.s (attr_s n1 rfl) (t _ fun _ _ h => h)))
theorem c_written (n : Nat) {C : Ctx} (Z : Su C) {m : Bool} {l : Int} {H : MH} {d : Nat} (i : Inv C m l H) (hd : LoopQ C d) : ∃ v H', cf (n + 4) (.g .k_written_slots) [.obj C.st, .obj (C.ln d)] H = some (v, H') ∧ WrP C m l H d v H' := by
 refine hide fun Ψ kΨ => ?_
 obtain ⟨hdc, qs, hq1, hq2, hq3⟩ := hd
 obtain ⟨ps, w1, w2, w3⟩ := i.wr
 refine kΨ ?_
 have hst := i.st
 have hnd : ∀ d, d < C.cnt → ∃ fs, H[C.ln d]? = some (.inst .k_Node fs) := fun d hd => by
  refine hide fun Ψ kΨ => ?_
  obtain ⟨op, val, ks, hn⟩ := Z.hlnn d hd
  obtain ⟨pl, ty, kl, s, h, _⟩ := hn.ext i.ext
  refine kΨ ?_
  exact ⟨_, h⟩
 have p1 := pre_app H [.list []]
 have go1 := Go.pre i p1
 have e2 := c_nodes_of (n + 1) (hq1.dfs.ext go1.inv.ext) (by rw [List.length_map]; omega)
 have g1 := app_new H (.list [])
 have p2 := wH_pre (H ++ [.list []]) (qs.map (·.1)) []
 have g2 := wH_1 (H ++ [.list []]) (qs.map (·.1)) []
 have hlt1 : H.length < (H ++ [O.list []]).length := lt_of_get g1
 generalize hH1 : H ++ [.list []] = H1 at p1 g1 go1 e2 p2 g2 hlt1
 generalize wHeap H1 (qs.map (·.1)) [] = H2 at e2 p2 g2
 have f2 := p_get p2 g1
 have hlt2 : H1.length < H2.length := lt_of_get g2
 have hall : ∀ (ys : List Nat), Go C m l none H (H2.set H.length (.list (natsV ys))) := fun ys => by
  refine Go.all i (by rw [List.length_set]; omega) fun a o e => ?_
  rw [get_set f2 (p_get p2 (p_get p1 e)), if_neg]
  have := lt_of_get e
  omega
 have hout : ∀ (ys : List Nat), (H2.set H.length (.list (natsV ys)))[H1.length]? = some (.list ((qs.map (·.1)).map V.obj)) := fun ys => by
  rw [get_set f2 g2, if_neg (by omega)]
 refine cl_run (P := WrP C m l H d) (ρ := [(.k_st, .obj C.st), (.k_node, .obj (C.ln d))]) rfl rfl rfl ?_
 refine wl_for2 (WO.s (attr_s hst rfl) ⟨C.w, _, rfl, w1, fun k ρ H' => [(.k_st, .obj C.st), (.k_node, .obj (C.ln d))] = ρ ∧ H = H' ∧ ∀ j, j < k → ∀ p, ps[j]? = some p → p.1 ≠ d, ⟨rfl, rfl, fun j hj => nomatch hj⟩, ?_, ?_, ?_⟩)
 ·rintro k _ _ ⟨rfl, rfl, _⟩
  exact okV_of w1 w1
 ·rintro k v hv _ _ ⟨rfl, rfl, hk⟩
  unfold pairsV at hv
  rw [List.map_map, List.getElem?_map] at hv
  refine hide fun Ψ kΨ => ?_
  obtain ⟨p, hp, rfl⟩ := Option.map_eq_some_iff.mp hv
  obtain ⟨p1, p2, ys, p3, p4⟩ := w3 p (List.mem_of_getElem? hp)
  obtain ⟨f1, n1⟩ := hnd p.1 p1
  obtain ⟨f2, n2⟩ := hnd d hdc
  refine kΨ ?_
  refine ⟨_, _, rfl, WO.s (eq_o n1 n2) (wIf_c (fun hx => ?_) fun hx => ?_)⟩
  ·exact ⟨p.2, ys, rfl, .refl i, p3, Z.hln _ _ p1 hdc hx ▸ p4⟩
  ·refine ⟨_, ?_, rfl, rfl, fun j hj q hq => ?_⟩
   ·((repeat (apply Sub.cons; (· rfl))); exact Sub.nil)
   ·rcases Nat.lt_or_eq_of_le (Nat.lt_succ_iff.mp hj) with h3 | h3
    ·exact hk j h3 q hq
    ·subst h3
     rw [hp] at hq; cases hq
     exact fun e => hx (congrArg C.ln e)
 ·rintro _ _ ⟨rfl, rfl, hk⟩
  have hn : ∀ p ∈ ps, p.1 ≠ d := fun p hp => by
   obtain ⟨j, hj⟩ := List.getElem?_of_mem hp
   exact hk j (by unfold pairsV; rw [List.length_map, List.length_map]; exact (List.getElem?_eq_some_iff.mp hj).1) p hj
  subst hH1
  refine wl_in rfl (W2.s e2 ⟨_, items_l g2, WI C d H.length H2 qs, ⟨[], rfl, set_back f2, Nat.le_refl _, fun i => ⟨(fun h => nomatch h), (fun ⟨_, h, _⟩ => nomatch h)⟩⟩, ?_, ?_, ?_⟩)
  ·rintro k _ _ ⟨ys, rfl, rfl, _, _⟩
   exact okV_of g2 (hout ys)
  ·rintro k v hv _ _ ⟨ys, rfl, hH, hlen, hys⟩
   rw [List.map_map, List.getElem?_map] at hv
   refine hide fun Ψ kΨ => ?_
   obtain ⟨q, hq, rfl⟩ := Option.map_eq_some_iff.mp hv
   refine kΨ ?_
   have hkl : k < qs.length := (List.getElem?_eq_some_iff.mp hq).1
   exact w_turn n Z f2 hH (hH ▸ (hall ys).inv) hlen (by omega) hys hq (hq1.2 q (List.mem_of_getElem? hq)) fun ρ'' ρ' H' h1 h2 => ⟨ρ'', h1, h2⟩
  ·rintro _ _ ⟨ys, rfl, rfl, hlen, hys⟩
   rw [List.length_map, List.length_map, List.take_length] at hys
   have hcov : Cov C.cnt d ys := fun i => (hys i).trans (hq2 i)
   have g3 := hall ys
   have hfd : (H2.set H.length (.list (natsV ys)))[H.length]? = some (.list (natsV ys)) := set_same f2
   have ne : ∀ (a : Nat) (o : O), H[a]? = some o → (H2.set H.length (.list (natsV ys)))[a]? = some o := fun a o e => by
    rw [get_set f2 (p_get p2 (p_get p1 e)), if_neg]
    have := lt_of_get e
    omega
   have hw1 := ne _ _ w1
   have hxw : H.length ≠ C.w := by have := lt_of_get w1; omega
   have g4 := Go.wadd Z g3.inv hw1 w2 (fun p hp => by
    refine hide fun Ψ kΨ => ?_
    obtain ⟨a1, a2, ys', a3, a4⟩ := w3 p hp
    refine kΨ ?_
    exact ⟨a1, a2, ys', ne _ _ a3, a4⟩) hdc hxw hfd hcov hn
   have hpl := nodup_le w2 (n := C.cnt) fun p hp => by
    refine hide fun Ψ kΨ => ?_
    obtain ⟨q, hq, rfl⟩ := List.mem_map.mp hp
    refine kΨ ?_
    exact (w3 q hq).1
   rw [List.length_map] at hpl
   have hcc := Z.hc
   have hla := app_l (v := .pair (.obj (C.ln d)) (.obj H.length)) hw1 (by rw [pairsV, List.length_map, List.length_map]; omega)
   refine w_ret [fv (attr_s (n := .k_written) g3.inv.st rfl), fm (meth_l (n := .k_append) hw1 (.inl rfl)), fc hla] (v := .obj H.length) (H' := (H2.set H.length (.list (natsV ys))).set C.w (.list (pairsV (ps.map fun p => (C.ln p.1, p.2)) ++ [V.pair (.obj (C.ln d)) (.obj H.length)]))) (by kernel_rfl) rfl ⟨H.length, ys, rfl, g3.trans g4, ?_, hcov⟩
   rw [get_set hw1 hfd, if_neg (fun h => hxw h.symm)]
theorem Go.fresh {C : Ctx} {m : Bool} {l : Int} {sr : Option Bool} {H H2 : MH} {fd : Nat} {E E' : List (Int × V)} (i : Inv C m l H) (g : Go C m l sr H H2) (hf : H.length ≤ fd) (h : H2[fd]? = some (.idict E)) : Go C m l sr H (H2.set fd (.idict E')) := by
 have ne : ∀ (a : Nat) (o : O), H2[a]? = some o → a ≠ fd → (H2.set fd (.idict E'))[a]? = some o := fun a o e n => by
  rw [get_set h e, if_neg (fun h => n h.symm)]
 have hB := i.ext.1
 refine ⟨⟨g.inv.ext.keep (by simp) fun a o ha e => ⟨o, ne a o e (by omega), .refl _⟩, ne _ _ g.inv.st ?_, g.inv.wr.keep fun a o ho e => ne a o e ?_⟩, fun a E e => ne _ _ (g.dc _ _ e) (by have := lt_of_get e; omega), ?_⟩
 ·intro x; have := g.inv.st; rw [x, h] at this; cases this
 ·intro x; rw [x, h] at e; cases e; cases ho
 ·have hs : ∀ s, SureAt C.el H2 s → SureAt C.el (H2.set fd (.idict E')) s := by
   rintro s ⟨op, pl, ty, kl, val, e⟩
   refine ⟨op, pl, ty, kl, val, ne _ _ e ?_⟩
   intro x; rw [x, h] at e; cases e
  have := g.su
  cases sr with
  | none => exact fun s q => hs s (this s q)
  | some s => exact hs s this
noncomputable def looseF (d cnt : Nat) (f : Nat → IV) : Nat → IV := fun i => if d ≤ i ∧ i ≤ cnt then fullI else f i
inductive To (C : Ctx) (m : Bool) (l : Int) (sr : Option Bool) (H : MH) (g : Nat → IV) (v : V) (H' : MH) : Prop
 | mk (e : Nat) (hv : v = .obj e) (go : Go C m l sr H H') (ev : EnvAt C H' e g) : To C m l sr H g v H'
inductive Run (C : Ctx) (m : Bool) (l : Int) (sr : Option Bool) (H : MH) (g : Nat → IV) (n : Nat) (f : Nm) (as : List V) : Prop
 | mk (e : Nat) (H' : MH) (c : cf n (.g f) as H = some (.obj e, H')) (go : Go C m l sr H H') (ev : EnvAt C H' e g) : Run C m l sr H g n f as
theorem Run.of {C : Ctx} {m : Bool} {l : Int} {sr : Option Bool} {H : MH} {g : Nat → IV} {n : Nat} {f : Nm} {as : List V} (h : ∃ v H', cf n (.g f) as H = some (v, H') ∧ To C m l sr H g v H') : Run C m l sr H g n f as := by
 refine hide fun Ψ kΨ => ?_
 obtain ⟨v, H', e, ⟨x, rfl, g, ev⟩⟩ := h
 refine kΨ ?_
 exact ⟨x, H', e, g, ev⟩
theorem c_loosened (n : Nat) {C : Ctx} (Z : Su C) {m : Bool} {l : Int} {H : MH} {d e : Nat} {f : Nat → IV} (i : Inv C m l H) (hd : LoopQ C d) (he : EnvAt C H e f) : Run C m l none H (looseF d C.cnt f) (n + 5) .k_loosened [.obj C.st, .obj e, .obj (C.ln d)] := by
 have p1 := pre_app H [.idict (dctL (C.cnt + 1) f)]
 have g1 := app_new H (.idict (dctL (C.cnt + 1) f))
 have go1 := Go.pre i p1
 obtain ⟨v, H2, e2, ⟨x, ys, rfl, go2, g2, hc⟩⟩ := c_written n Z go1.inv hd
 have e1 := cf_dict (n + 3) he
 have go02 : Go C m l none H H2 := go1.trans go2
 have f2 := go2.dc _ _ g1
 have hxne : H.length ≠ x := by intro h; rw [← h, f2] at g2; cases g2
 refine Run.of (cl_run (ρ := [(.k_st, .obj C.st), (.k_env, .obj e), (.k_node, .obj (C.ln d))]) rfl rfl rfl (W2.s e1 (wl_in rfl (W2.s e2 ⟨_, items_l g2, fun k ρ H3 => [(.k_st, .obj C.st), (.k_env, .obj e), (.k_node, .obj (C.ln d)), (.k_found, .obj H.length)] = ρ ∧ H2.set H.length (.idict (dctL (C.cnt + 1) fun i => if i ∈ ys.take k then fullI else f i)) = H3, ⟨rfl, set_back f2⟩, ?_, ?_, ?_⟩))))
 ·rintro k _ _ ⟨rfl, rfl⟩
  refine okV_of g2 ?_
  rw [get_set f2 g2, if_neg hxne]
 ·rintro k v hv _ _ ⟨rfl, rfl⟩
  unfold natsV at hv
  rw [List.getElem?_map] at hv
  obtain ⟨y, hy, rfl⟩ := Option.map_eq_some_iff.mp hv
  have hyc : y ≤ C.cnt := ((hc y).mp (List.mem_of_getElem? hy)).2
  have hcong : dctL (C.cnt + 1) (upd (fun i => if i ∈ ys.take k then fullI else f i) y fullI) = dctL (C.cnt + 1) fun i => if i ∈ ys.take (k + 1) then fullI else f i := dctL_congr fun i _ => by
   have : (i ∈ ys.take (k + 1)) ↔ i = y ∨ i ∈ ys.take k := by
    rw [List.take_add_one, hy]
    exact List.mem_append.trans ((or_congr Iff.rfl List.mem_singleton).trans or_comm)
   unfold upd
   if h : i = y then rw [if_pos h, if_pos (this.mpr (.inl h))] else rw [if_neg h, ite_congr (propext (this.trans (or_iff_right h))) (fun _ => rfl) fun _ => rfl]
  have hput := (put_dctL (fun i => if i ∈ ys.take k then fullI else f i) fullI (Nat.lt_succ_of_le hyc)).trans hcong
  generalize (dctL (C.cnt + 1) fun i => if i ∈ ys.take (k + 1) then fullI else f i) = D' at hput ⊢
  have hl : (dctL (C.cnt + 1) fun i => if i ∈ ys.take k then fullI else f i).length < 100000 := by rw [len_dctL]; have := Z.hc; omega
  generalize (dctL (C.cnt + 1) fun i => if i ∈ ys.take k then fullI else f i) = D at hput hl ⊢
  refine W2.s (c_full (n + 3) _) (WO.s (set_sub (set_same f2) hl) ⟨_, ?_, rfl, ?_⟩)
  ·((repeat (apply Sub.cons; (· rfl))); exact Sub.nil)
  ·rw [set_set']; exact congrArg (fun D => H2.set H.length (.idict D)) hput.symm
 ·rintro _ _ ⟨rfl, rfl⟩
  refine To.mk H.length rfl (Go.fresh i go02 (Nat.le_refl _) f2) (EnvAt.congr (set_same f2) fun i hi => ?_)
  unfold natsV
  rw [List.length_map, List.take_length]
  unfold looseF
  rw [ite_congr (propext (hc i)) (fun _ => rfl) fun _ => rfl]
inductive Stmts (C : Ctx) (m : Bool) (l : Int) (n : Nat) : List Nat → MH → Nat → MH → Nat → Prop
 | nil {H : MH} {e : Nat} : Stmts C m l n [] H e H e
 | cons {x e e1 e2 : Nat} {xs : List Nat} {H H1 H2 : MH} : cf n (.g .k_run) [.obj C.st, .obj e, .obj x] H = some (.obj e1, H1) → Inv C m l H1 → Stmts C m l n xs H1 e1 H2 e2 → Stmts C m l n (x :: xs) H e H2 e2
theorem Stmts.app {C : Ctx} {m : Bool} {l : Int} {n : Nat} {xs ys : List Nat} {H H1 H2 : MH} {e e1 e2 : Nat} (h1 : Stmts C m l n xs H e H1 e1) (h2 : Stmts C m l n ys H1 e1 H2 e2) : Stmts C m l n (xs ++ ys) H e H2 e2 := by
 induction h1 with
 | nil => exact h2
 | cons a b _ ih => exact .cons a b (ih h2)
theorem Stmts.uncons {C : Ctx} {m : Bool} {l : Int} {n x : Nat} {xs : List Nat} {H H2 : MH} {e e2 : Nat} {P : Prop} (h : Stmts C m l n (x :: xs) H e H2 e2) (k : ∀ e1 H1, cf n (.g .k_run) [.obj C.st, .obj e, .obj x] H = some (.obj e1, H1) → Inv C m l H1 → Stmts C m l n xs H1 e1 H2 e2 → P) : P := by
 cases h with
 | cons a b c => exact k _ _ a b c
theorem Stmts.unnil {C : Ctx} {m : Bool} {l : Int} {n : Nat} {H H2 : MH} {e e2 : Nat} (h : Stmts C m l n [] H e H2 e2) : H = H2 ∧ e = e2 := by
 cases h with
 | nil => exact ⟨rfl, rfl⟩
inductive BI (C : Ctx) (m : Bool) (l : Int) (n : Nat) (blk : Nat) (ys : List Nat) (H' : MH) (e' k : Nat) (ρ : Loc) (H2 : MH) : Prop
 | mk (e2 : Nat) (hρ : [(.k_st, .obj C.st), (.k_env, .obj e2), (.k_node, .obj blk), (.k_op, .str .k_block)] = ρ) (hs : Stmts C m l n (ys.drop k) H2 e2 H' e') (i : Inv C m l H2) : BI C m l n blk ys H' e' k ρ H2
theorem wl_blk {C : Ctx} {m : Bool} {l : Int} {n : Nat} {ys : List Nat} {H H' : MH} {e e' blk kl : Nat} {s : Bool} {pl : Int} {ty val : V} {Q : Fl → Loc → MH → Prop} (n1 : H[blk]? = some (nodeO .k_block pl ty kl val s)) (b2 : C.B[kl]? = some (.list (ys.map V.obj))) (i : Inv C m l H) (h : Stmts C m l n ys H e H' e') (q : Q .next [(.k_st, .obj C.st), (.k_env, .obj e'), (.k_node, .obj blk), (.k_op, .str .k_block)] H') :
  WL (cf n) (.forIn .k_kid (.attr (.loc .k_node) .k_kids) (.seq (.asg .k_env (.call (.glob .k_run) (.cons (.loc .k_st) (.cons (.loc .k_env) (.cons (.loc .k_kid) .nil))))) .nil)) [(.k_st, .obj C.st), (.k_env, .obj e), (.k_node, .obj blk), (.k_op, .str .k_block)] H Q := by
 have n2 := i.ext.get b2 rfl
 refine wl_in rfl (WO.s (attr_s n1 rfl) ⟨_, items_l n2, BI C m l n blk ys H' e', ⟨e, rfl, h, i⟩, ?_, ?_, ?_⟩)
 ·rintro k _ H2 ⟨e2, rfl, _, i2⟩
  exact okV_of n2 (i2.ext.get b2 rfl)
 ·rintro k v hv _ H2 ⟨e2, rfl, hst, i2⟩
  rw [List.getElem?_map] at hv
  obtain ⟨x, hx, rfl⟩ := Option.map_eq_some_iff.mp hv
  rw [List.drop_eq_getElem_cons (List.getElem?_eq_some_iff.mp hx).1, (List.getElem?_eq_some_iff.mp hx).2] at hst
  refine hst.uncons fun e1 H1 a b c => W2.s a ⟨_, ?_, e1, rfl, c, b⟩
  ((repeat (apply Sub.cons; (· rfl))); exact Sub.nil)
 ·rintro _ H2 ⟨e2, rfl, hst, i2⟩
  rw [List.length_map, List.drop_length] at hst
  obtain ⟨rfl, rfl⟩ := hst.unnil
  exact q
theorem c_block {C : Ctx} {m : Bool} {l : Int} {n : Nat} {ys : List Nat} {H H' : MH} {e e' blk : Nat} {val : V} (i : Inv C m l H) (hb : Nd C.B blk .k_block val ys) (h : Stmts C m l n ys H e H' e') : cf (n + 1) (.g .k_run) [.obj C.st, .obj e, .obj blk] H = some (.obj e', H') := by
 refine hide fun Ψ kΨ => ?_
 obtain ⟨pl, ty, kl, s, b1, b2⟩ := hb
 obtain ⟨s1, n1⟩ := i.ext.node b1
 refine kΨ ?_
 exact cl_eq (ρ := [(.k_st, .obj C.st), (.k_env, .obj e), (.k_node, .obj blk)]) rfl rfl rfl (WO.s (attr_s n1 rfl) (wl_blk n1 b2 i h ⟨rfl, rfl⟩))
noncomputable def GoodX (top : Int) (x : IV) : Prop := -2147483648 ≤ x.1 ∧ x.1 ≤ top ∧ x.1 ≤ x.2 ∧ x.2 ≤ 2147483647
noncomputable def insX (top : Int) (x : IV) : IV := (x.1, min x.2 top)
noncomputable def insF (d : Nat) (top : Int) (h : Nat → IV) : Nat → IV := upd h d (insX top (h d))
noncomputable def outO (d : Nat) (top : Int) (h : Nat → IV) : Option (Nat → IV) := if top + 1 ≤ (h d).2 then some (upd h d (top + 1, (h d).2)) else none
theorem meet_some {x y : IV} (h : max x.1 y.1 ≤ min x.2 y.2) : meetI x y = some (max x.1 y.1, min x.2 y.2) := by
 unfold meetI; rw [if_neg (by omega)]
theorem below_some {x y : IV} {g : Int} (h1 : -2147483648 ≤ y.2 - g) (h2 : x.1 + g ≤ 2147483647) (h3 : max x.1 (-2147483648) ≤ min x.2 (y.2 - g)) (h4 : max y.1 (x.1 + g) ≤ min y.2 2147483647) : belowI x y g = some ((max x.1 (-2147483648), min x.2 (y.2 - g)), (max y.1 (x.1 + g), min y.2 2147483647)) := by
 unfold belowI
 rw [if_neg (Int.not_lt.mpr h1), if_neg (Int.not_lt.mpr h2), meet_some h3, meet_some h4]
 rfl
theorem narrow_le {top : Int} {x : IV} (ht : 0 ≤ top ∧ top ≤ 6) (h : GoodX top x) : narrowI .k_le x (top, top) = some (insX top x, (top, top)) := by
 refine hide fun Ψ kΨ => ?_
 obtain ⟨h1, h2, h3, h4⟩ := h
 refine kΨ ?_
 refine (below_some (g := 0) (by dsimp only; omega) (by omega) (by dsimp only; omega) (by dsimp only; omega)).trans ?_
 rw [Int.sub_zero, Int.add_zero, Int.max_eq_left h1, Int.max_eq_left h2]
 exact congrArg (fun t => some ((x.1, min x.2 top), (top, t))) (Int.min_eq_left (by omega))
theorem narrow_gt {top : Int} {x : IV} (ht : 0 ≤ top ∧ top ≤ 6) (h : GoodX top x) : narrowI .k_gt x (top, top) = if top + 1 ≤ x.2 then some ((top + 1, x.2), (top, top)) else none := by
 refine hide fun Ψ kΨ => ?_
 obtain ⟨h1, h2, h3, h4⟩ := h
 refine kΨ ?_
 show (belowI (top, top) x 1).map (fun p => (p.2, p.1)) = _
 if hc : top + 1 ≤ x.2 then
  rw [if_pos hc, below_some (g := 1) (by omega) (by dsimp only; omega) (by dsimp only; omega) (by dsimp only; omega), Int.max_eq_left (by dsimp only; omega), Int.min_eq_left (by dsimp only; omega), Int.max_eq_right (by dsimp only; omega), Int.min_eq_left h4]
  rfl
 else
  rw [if_neg hc]
  unfold belowI
  if h5 : x.2 - 1 < -2147483648 then rw [if_pos h5]; rfl
  else
   have : meetI (top, top) (-2147483648, x.2 - 1) = none := if_pos (by dsimp only; omega)
   rw [if_neg h5, if_neg (by dsimp only; omega), this]
   rfl
theorem rel_le {d : Nat} {top : Int} {h : Nat → IV} (ht : 0 ≤ top ∧ top ≤ 6) (hx : GoodX top (h d)) : relF .k_le d top h = some (insF d top h) := by
 unfold relF
 rw [narrow_le ht hx]
 refine hide fun Ψ kΨ => ?_
 obtain ⟨h1, h2, h3, h4⟩ := hx
 refine kΨ ?_
 show (meetI (h d) (insX top (h d))).map _ = _
 rw [meet_some (by unfold insX; dsimp only; omega)]
 unfold insF insX
 rw [Int.max_self, ← Int.min_assoc, Int.min_self]
 rfl
theorem rel_gt {d : Nat} {top : Int} {h : Nat → IV} (ht : 0 ≤ top ∧ top ≤ 6) (hx : GoodX top (h d)) : relF .k_gt d top h = outO d top h := by
 unfold relF outO
 rw [narrow_gt ht hx]
 refine hide fun Ψ kΨ => ?_
 obtain ⟨h1, h2, h3, h4⟩ := hx
 refine kΨ ?_
 if hc : top + 1 ≤ (h d).2 then
  rw [if_pos hc, if_pos hc]
  show (meetI (h d) (top + 1, (h d).2)).map _ = _
  rw [meet_some (by dsimp only; omega), Int.max_eq_right (by dsimp only; omega), Int.min_self]
  rfl
 else
  rw [if_neg hc, if_neg hc]
  rfl
inductive Bd (C : Ctx) (n : Nat) (m : Bool) (l : Int) (sr : Option Bool) (ys : List Nat) (H : MH) (e : Nat) (g : Nat → IV) : Prop
 | mk (H' : MH) (e' : Nat) (s : Stmts C m l n ys H e H' e') (go : Go C m l sr H H') (ev : EnvAt C H' e' g) : Bd C n m l sr ys H e g
noncomputable def BodyC (C : Ctx) (n : Nat) (l : Int) (P : (Nat → IV) → Prop) (F : (Nat → IV) → Nat → IV) (sr : (Nat → IV) → Bool) (ys : List Nat) : Prop := ∀ m H e f, P f → Inv C m l H → EnvAt C H e f → Bd C n m l (if m then some (sr f) else none) ys H e (F f)
noncomputable def backF (d : Nat) (top : Int) (F : (Nat → IV) → Nat → IV) (h : Nat → IV) : Nat → IV := upd (F (insF d top h)) d (addI (F (insF d top h) d) (1, 1))
inductive IsFor (C : Ctx) (d : Nat) (ys : List Nat) : Prop
 | mk (c z tp blk : Nat) (h1 : Nd C.B (C.ln d) .k_for (.int 1) [c, z, tp, blk]) (h2 : IsVarI C.B c d) (h3 : IsConst C.B z 0) (h4 : IsConst C.B tp (C.top d)) (h5 : Nd C.B blk .k_block .none ys) : IsFor C d ys
inductive IsWhl (C : Ctx) (d : Nat) (ys : List Nat) : Prop
 | mk (tst blk stp cs k1 : Nat) (h1 : Nd C.B (C.ln d) .k_while .none [tst, blk]) (h2 : IsTest C.B tst d (C.top d)) (h3 : Nd C.B blk .k_block .none (ys ++ [stp])) (h4 : Nd C.B stp .k_std (.str .k_INC) [cs, k1]) (h5 : IsVarI C.B cs d) (h6 : IsConst C.B k1 1) : IsWhl C d ys
inductive TnP (C : Ctx) (m : Bool) (l : Int) (sr : Option Bool) (H : MH) (g : Nat → IV) (o : Option (Nat → IV)) (v : V) (H' : MH) : Prop
 | mk (eb : Nat) (v2 : V) (hv : v = .pair (.obj eb) v2) (go : Go C m l sr H H') (ev : EnvAt C H' eb g) (ho : OF (C.cnt + 1) H' v2 o) : TnP C m l sr H g o v H'
noncomputable def TurnC (C : Ctx) (n : Nat) (l : Int) (d : Nat) (P : (Nat → IV) → Prop) (T : (Nat → IV) → Nat → IV) (sr : (Nat → IV) → Bool) : Prop := ∀ m H e h, P h → Inv C m l H → EnvAt C H e h → ∃ v H', cf n (.g .k_turn_of) [.obj C.st, .obj e, .obj (C.ln d)] H = some (v, H') ∧ TnP C m l (if m then some (sr h) else none) H (T h) (outO d (C.top d) h) v H'
theorem OF.go {C : Ctx} {m : Bool} {l : Int} {sr : Option Bool} {N : Nat} {H H' : MH} {v : V} {o : Option (Nat → IV)} (h : OF N H v o) (g : Go C m l sr H H') : OF N H' v o := by
 cases o with
 | none => exact h
 | some f => obtain ⟨e, h1, h2⟩ := h; exact ⟨e, h1, g.dc _ _ h2⟩
theorem Go.or_none {C : Ctx} {m m' : Bool} {l l' : Int} {a : Option Bool} {H H' H'' : MH} (h : Go C m l none H H') (k : Go C m' l' a H' H'') : Go C m' l' a H H'' := by
 have := h.trans k
 rwa [Option.or_none] at this
theorem Go.none_or {C : Ctx} {m m' : Bool} {l l' : Int} {a : Option Bool} {H H' H'' : MH} (h : Go C m l a H H') (k : Go C m' l' none H' H'') : Go C m' l' a H H'' := h.trans k
theorem mk_env {C : Ctx} {m : Bool} {l : Int} (n : Nat) (Z : Su C) {H : MH} {e d : Nat} {f : Nat → IV} (x : IV) (i : Inv C m l H) (he : EnvAt C H e f) (hd : d ≤ C.cnt) : Run C m l none H (upd f d x) (n + 2) .k_with_slot [.obj e, .int d, iv x] :=
 ⟨_, _, w_slot n Z he hd, .app i _, app_new _ _⟩
theorem for_turn (n : Nat) {C : Ctx} (Z : Su C) {l : Int} {d : Nat} {ys : List Nat} {P : (Nat → IV) → Prop} {F : (Nat → IV) → Nat → IV} {sr : (Nat → IV) → Bool} (hd : d < C.cnt) (hf : IsFor C d ys) (hb : BodyC C (n + 10) l P F sr ys) :
  TurnC C (n + 13) l d (fun h => GoodX (C.top d) (h d) ∧ P (insF d (C.top d) h)) (backF d (C.top d) F) (fun h => sr (insF d (C.top d) h)) := by
 rintro m H e h ⟨hx, hP⟩ i he
 obtain ⟨c, z, tp, blk, ⟨pl, ty, kl, s, b1, b2⟩, hc, hz, ht, hk⟩ := hf
 obtain ⟨s1, n1⟩ := i.ext.node b1
 have n2 := i.ext.get b2 rfl
 have hd' := Nat.le_of_lt hd
 have e1 := look_const (n + 8) (st := C.st) (env := .obj e) (ht.ext i.ext)
 have e2 := c_known (n + 10) H (C.top d, C.top d)
 have e3 := slot_var (n + 10) Z i (hc.ext i.ext).var hd'
 have e4 := c_narrow (n + 7) H (op := .k_le) (h d) (C.top d, C.top d) rfl
 rw [narrow_le (Z.htop d) hx] at e4
 have e5 := c_opposite (n + 10) H (op := .k_le) rfl
 have g1 := Go.app i [.sdict oppD]
 have e6 := c_narrow (n + 7) (H ++ [.sdict oppD]) (op := .k_gt) (h d) (C.top d, C.top d) rfl
 rw [narrow_gt (Z.htop d) hx] at e6
 have he1 := he.go g1
 have hget := get_dctL h (Nat.lt_succ_of_le hd')
 have tail : ∀ v2 H2 x, Go C m l none (H ++ [.sdict oppD]) H2 → OF (C.cnt + 1) H2 v2 (outO d (C.top d) h) → wS (cf (n + 11)) (drp 8 F_k_for_turn.1.body) [(.k_st, .obj C.st), (.k_env, .obj e), (.k_node, .obj (C.ln d)), (.k_limit, iv (C.top d, C.top d)), (.k_slot, .int d), (.k_step, .int 1), (.k_op, .str .k_le), (.k_inside, oiv2 (some (insX (C.top d) (h d), (C.top d, C.top d)))), (.k_past, x), (.k_out, v2)] H2 (endQ (TnP C m l (if m then some (sr (insF d (C.top d) h)) else none) H (backF d (C.top d) F h) (outO d (C.top d) h))) := fun v2 H2 x g2 ho => by
  obtain ⟨e3', H3, e8, g3, he3⟩ := mk_env (n + 9) Z (insX (C.top d) (h d)) g2.inv (he1.go g2) hd'
  obtain ⟨H4, e4', e9, g4, he4⟩ := hb m H3 e3' _ hP g3.inv he3
  have e9 := c_block g3.inv hk e9
  obtain ⟨t, e10⟩ := c_add (n + 8) H4 (F (insF d (C.top d) h) d) (1, 1)
  have e11 := c_single (n + 10) H4 1
  have hget4 := get_dctL (F (insF d (C.top d) h)) (Nat.lt_succ_of_le hd')
  obtain ⟨e5', H5, e12, g5, he5⟩ := mk_env (n + 9) Z (addI (F (insF d (C.top d) h) d) (1, 1)) g4.inv he4 hd'
  obtain ⟨s7, n7⟩ := g3.inv.ext.node b1
  exact w_ret [fc e8, fv (attr_s (n := .k_kids) n7 rfl), fv (sub_l (k := 3) (g3.inv.ext.get b2 rfl) rfl), fc e9, fv (sub_d he4 hget4), fc e11, fc e10, fc e12] (v := .pair (.obj e5') v2) (H' := H5) (by kernel_rfl) rfl ⟨e5', v2, rfl, (g1.or_none (g2.or_none (g3.or_none g4))).none_or g5, he5, ((ho.go g3).go g4).go g5⟩
 have ea : ∃ v H', cf (n + 12) (.g .k_for_turn) [.obj C.st, .obj e, .obj (C.ln d)] H = some (v, H') ∧ TnP C m l (if m then some (sr (insF d (C.top d) h)) else none) H (backF d (C.top d) F h) (outO d (C.top d) h) v H' := by
  refine cl_run (ρ := [(.k_st, .obj C.st), (.k_env, .obj e), (.k_node, .obj (C.ln d))]) rfl rfl rfl ?_
  refine w_seg 7 [fv (attr_s (n := .k_kids) n1 rfl), fv (sub_l (k := 2) n2 rfl), fc e1, fc e2, fv (attr_s (n := .k_kids) n1 rfl), fv (sub_l (k := 0) n2 rfl), fc e3, fv (attr_s (n := .k_value) n1 rfl), fb (o := decide ((d : Int) < 0)) (decide_eq_false (Int.not_lt.mpr (slot_ge d))), fb (o := decide ((1 : Int) > 0)) rfl, fv (sub_d he hget), fc e4, fc e5, fv (sub_d he1 hget), fc e6]
   (y := (.next, [(.k_st, .obj C.st), (.k_env, .obj e), (.k_node, .obj (C.ln d)), (.k_limit, iv (C.top d, C.top d)), (.k_slot, .int d), (.k_step, .int 1), (.k_op, .str .k_le), (.k_inside, oiv2 (some (insX (C.top d) (h d), (C.top d, C.top d)))), (.k_past, oiv2 (if C.top d + 1 ≤ (h d).2 then some ((C.top d + 1, (h d).2), (C.top d, C.top d)) else none))], H ++ [.sdict oppD])) (by kernel_rfl) ?_
  if hq : C.top d + 1 ≤ (h d).2 then
   rw [if_pos hq]
   obtain ⟨e', H2, w, g, hw⟩ := mk_env (n + 9) Z (C.top d + 1, (h d).2) g1.inv he1 hd'
   exact W2.s w (tail _ _ _ g (by unfold outO; rw [if_pos hq]; exact ⟨e', rfl, hw⟩))
  else
   rw [if_neg hq]
   exact tail _ _ _ (.refl g1.inv) (by unfold outO; rw [if_neg hq]; rfl)
 obtain ⟨v, H', ea, t⟩ := ea
 exact ⟨v, H', cl_s (ρ := [(.k_st, .obj C.st), (.k_env, .obj e), (.k_node, .obj (C.ln d))]) [fv (attr_s (n := .k_op) n1 rfl), fv (attr_s (n := .k_op) n1 rfl), fc ea] (by kernel_rfl) rfl rfl rfl rfl, t⟩
theorem whl_turn (n : Nat) {C : Ctx} (Z : Su C) {l : Int} {d : Nat} {ys : List Nat} {P : (Nat → IV) → Prop} {F : (Nat → IV) → Nat → IV} {sr : (Nat → IV) → Bool} (hd : d < C.cnt) (hf : IsWhl C d ys) (hb : BodyC C (n + 10) l P F sr ys) :
  TurnC C (n + 13) l d (fun h => GoodX (C.top d) (h d) ∧ P (insF d (C.top d) h)) (backF d (C.top d) F) (fun h => sr (insF d (C.top d) h)) := by
 rintro m H e h ⟨hx, hP⟩ i he
 refine hide fun Ψ kΨ => ?_
 obtain ⟨tst, blk, stp, cs, k1, ⟨pl, ty, kl, s, b1, b2⟩, ht, hk, hstp, hcs, hk1⟩ := hf
 obtain ⟨s1, n1⟩ := i.ext.node b1
 have n2 := i.ext.get b2 rfl
 have hN : C.cnt + 1 ≤ 1000 := by have := Z.hc; omega
 have hd' := Nat.le_of_lt hd
 have hD : ∀ k, k < C.cnt + 1 → ∃ x, get (k : Int) (dctL (C.cnt + 1) C.f0) = some x := fun k hk => ⟨_, get_dctL C.f0 hk⟩
 have e1 := look_test (n + 7) Z i (ht.ext i.ext) he hd'
 obtain ⟨v1, H1, e2, p2, o2⟩ := c_assume (C.cnt + 1) hN hD (.leaf .k_le d (C.top d)) (n + 4) H e tst h true (i.at Z) (ht.ext i.ext).rel (Nat.lt_succ_of_le hd') he
 have o2 : OF (C.cnt + 1) H1 v1 (some (insF d (C.top d) h)) := rel_le (Z.htop d) hx ▸ o2
 obtain ⟨ei, rfl, he1⟩ := o2
 have g1 := Go.pre i p2
 obtain ⟨H2, e4', e9, g2, he2⟩ := hb m H1 ei _ hP g1.inv he1
 obtain ⟨H3, e5', e10, g3, he3⟩ := run_inc (n + 2) Z g2.inv hstp hcs hk1 he2 hd'
 have e11 := c_block g1.inv hk (e9.app (.cons e10 g3.inv .nil))
 have g13 := (g1.or_none g2).none_or g3
 obtain ⟨v2, H4, e12, p4, o4⟩ := c_assume (C.cnt + 1) hN hD (.leaf .k_le d (C.top d)) (n + 4) H3 e tst h false (g13.inv.at Z) (ht.ext g13.inv.ext).rel (Nat.lt_succ_of_le hd') (he.go g13)
 have o4 : OF (C.cnt + 1) H4 v2 (outO d (C.top d) h) := rel_gt (Z.htop d) hx ▸ o4
 have g4 := Go.pre g13.inv p4
 obtain ⟨s5, n5⟩ := g1.inv.ext.node b1
 obtain ⟨s6, n6⟩ := g3.inv.ext.node b1
 refine kΨ ?_
 have e13 := c_join_none (n + 10) H3 (v := .obj e5')
 have ea : cf (n + 12) (.g .k_run_arms) [.obj C.st, .obj e, .obj (C.ln d), .int 2] H = some (.pair (.obj e5') v2, H4) := by
  refine cl_eq (ρ := [(.k_st, .obj C.st), (.k_env, .obj e), (.k_node, .obj (C.ln d)), (.k_last, .int 2)]) rfl rfl rfl (wl_range ?_)
  exact w_seg 5 [fv (attr_s (n := .k_kids) n1 rfl), fv (sub_l (k := 0) n2 rfl), fc e1, fv (attr_s (n := .k_kids) n1 rfl), fv (sub_l (k := 0) n2 rfl), fc e2, fv (attr_s (n := .k_kids) n5 rfl), fv (sub_l (k := 1) (g1.inv.ext.get b2 rfl) rfl), fc e11, fc e13, fv (attr_s (n := .k_kids) n6 rfl), fv (sub_l (k := 0) (g3.inv.ext.get b2 rfl) rfl), fc e12]
   (y := (.next, [(.k_st, .obj C.st), (.k_env, v2), (.k_node, .obj (C.ln d)), (.k_last, .int 2), (.k_done, .obj e5'), (.k_place, .int 0), (.k_inner, .obj ei)], H4)) (by kernel_rfl) ⟨rfl, rfl⟩
 have el := cf_len (n + 11) n2
 exact ⟨.pair (.obj e5') v2, H4, cl_s (ρ := [(.k_st, .obj C.st), (.k_env, .obj e), (.k_node, .obj (C.ln d))]) [fv (attr_s (n := .k_op) n1 rfl), fv (attr_s (n := .k_kids) n1 rfl), fc el, fc ea] (by kernel_rfl) rfl rfl rfl rfl, e5', v2, rfl, g13.none_or g4, he3.go g4, o4⟩
theorem c_quiet_turn (n : Nat) {C : Ctx} (Z : Su C) {l : Int} {d : Nat} {P : (Nat → IV) → Prop} {T : (Nat → IV) → Nat → IV} {sr : (Nat → IV) → Bool} (ht : TurnC C n l d P T sr) {m : Bool} {H : MH} {e : Nat} {h : Nat → IV} (hP : P h) (i : Inv C m l H) (he : EnvAt C H e h) :
  Run C m l none H (T h) (n + 1) .k_quiet_turn [.obj C.st, .obj e, .obj (C.ln d)] := by
 have g1 := Go.st (m' := false) (l' := l) Z.hst i
 have s0 := i.st
 refine hide fun Ψ kΨ => ?_
 obtain ⟨_, H2, e1, ⟨eb, v2, rfl, g2, hb, _⟩⟩ := ht false _ e h hP g1.inv (he.go g1)
 refine kΨ ?_
 have s2 := g2.inv.st
 have g3 := Go.st (m' := m) (l' := l) Z.hst g2.inv
 exact ⟨eb, _, cl_s (ρ := [(.k_st, .obj C.st), (.k_env, .obj e), (.k_node, .obj (C.ln d))]) [fv (attr_s (n := .k_marking) s0 rfl), fh (set_attr (n := .k_marking) (w := .bool false) s0 rfl), fc e1, fh (set_attr (n := .k_marking) (w := .bool m) s2 rfl)] (by kernel_rfl) rfl rfl rfl rfl, (g1.or_none g2).or_none g3, hb.go g3⟩
noncomputable def R2 (d cnt : Nat) (top : Int) (f : Nat → IV) : Nat → IV := upd (looseF d cnt f) d (top + 1, 2147483647)
theorem loose_at {d cnt : Nat} (h : d ≤ cnt) (f : Nat → IV) : looseF d cnt f d = fullI := by unfold looseF; rw [if_pos ⟨Nat.le_refl _, h⟩]
theorem good_full {top : Int} (h : 0 ≤ top ∧ top ≤ 6) : GoodX top fullI := by unfold GoodX fullI; dsimp only; omega
theorem run_loop2 (n : Nat) {C : Ctx} (Z : Su C) {l : Int} {d : Nat} {P : (Nat → IV) → Prop} {T : (Nat → IV) → Nat → IV} {sr : (Nat → IV) → Bool} (hl : 2 ≤ l) (hq : LoopQ C d) (ht : TurnC C (n + 13) l d P T sr) {m : Bool} {H : MH} {e : Nat} {f : Nat → IV} (hP : P (looseF d C.cnt f)) (i : Inv C m l H) (he : EnvAt C H e f) :
  Run C m l (if m then some (sr (looseF d C.cnt f)) else none) H (R2 d C.cnt (C.top d) f) (n + 14) .k_run_loop [.obj C.st, .obj e, .obj (C.ln d)] := by
 refine hide fun Ψ kΨ => ?_
 obtain ⟨e1, H1, a1, g1, h1⟩ := c_loosened (n + 8) Z i hq he
 obtain ⟨_, H2, a2, ⟨eb, v2, rfl, g2, hb, ho⟩⟩ := ht m H1 e1 _ hP g1.inv h1
 have htop := Z.htop d
 unfold outO at ho
 rw [loose_at (f := f) (Nat.le_of_lt hq.1), if_pos (by unfold fullI; dsimp only; omega)] at ho
 obtain ⟨e2, rfl, h2⟩ := ho
 refine kΨ ?_
 exact ⟨e2, H2, cl_s (ρ := [(.k_st, .obj C.st), (.k_env, .obj e), (.k_node, .obj (C.ln d))]) [fv (attr_s (n := .k_loops) i.st rfl), fb (o := decide (l ≥ 2)) (decide_eq_true hl), fc a1, fc a2] (by kernel_rfl) rfl rfl rfl rfl, g1.or_none g2, h2⟩
noncomputable def jnF (f g : Nat → IV) : Nat → IV := fun i => joinI (f i) (g i)
noncomputable def wdF (f g : Nat → IV) : Nat → IV := fun i => widenI (f i) (g i)
structure Rest (C : Ctx) (P : (Nat → IV) → Prop) (T : (Nat → IV) → Nat → IV) (f0 S : Nat → IV) (D0 D1 : (Nat → IV) → Prop) : Prop where
 start : D0 f0
 pre : ∀ h, D0 h → P h
 preS : P S
 join : ∀ h, D0 h → D1 (jnF f0 (T h))
 weak : ∀ h, D1 h → D0 h
 wide : ∀ h, D1 h → D1 (wdF h (jnF f0 (T h)))
 stay : ∀ h, D1 h → withinN (C.cnt + 1) (jnF f0 (T (wdF h (jnF f0 (T h))))) (wdF h (jnF f0 (T h))) = true
 done : ∀ h, D0 h → withinN (C.cnt + 1) (jnF f0 (T h)) h = true → ∀ i, i ≤ C.cnt → jnF f0 (T h) i = S i
 again : withinN (C.cnt + 1) (jnF f0 (T S)) S = true
inductive Gr (C : Ctx) (n : Nat) (m : Bool) (l : Int) (d e eh : Nat) (H : MH) (g : Nat → IV) : Prop
 | mk (H1 H' : MH) (e1 e' : Nat) (a1 : cf n (.g .k_quiet_turn) [.obj C.st, .obj eh, .obj (C.ln d)] H = some (.obj e1, H1)) (a2 : cf n (.g .k_join_envs) [.obj e, .obj e1] H1 = some (.obj e', H')) (go : Go C m l none H H') (ev : EnvAt C H' e' g) : Gr C n m l d e eh H g
theorem cnt_le {C : Ctx} (Z : Su C) : C.cnt + 1 ≤ 1000 := Nat.le_trans (Nat.succ_le_succ Z.hc.2) (Nat.le_of_ble_eq_true rfl)
section
variable (n : Nat) {C : Ctx} (Z : Su C) {l : Int} {d : Nat} {P : (Nat → IV) → Prop} {T : (Nat → IV) → Nat → IV} {sr : (Nat → IV) → Bool}
include Z
theorem c_grown (ht : TurnC C (n + 13) l d P T sr) {m : Bool} {H : MH} {e eh : Nat} {f0 h : Nat → IV} (hP : P h) (i : Inv C m l H) (he : EnvAt C H e f0) (hh : EnvAt C H eh h) : Gr C (n + 14) m l d e eh H (jnF f0 (T h)) := by
 refine hide fun Ψ kΨ => ?_
 obtain ⟨e1, H1, a1, g1, h1⟩ := c_quiet_turn (n + 13) Z ht hP i hh
 refine kΨ ?_
 exact ⟨H1, _, e1, _, a1, c_join_envs (n + 11) H1 (he.go g1) h1 (cnt_le Z), g1.or_none (.app g1.inv _), app_new _ _⟩
noncomputable def hρ (C : Ctx) (d e eh : Nat) (r : Nat) (eg : Nat) : Loc := [(.k_st, .obj C.st), (.k_env, .obj e), (.k_node, .obj (C.ln d)), (.k_head, .obj eh), (.k_rounds, .int r), (.k_grown, .obj eg)]
omit Z in
inductive LI (C : Ctx) (m : Bool) (l : Int) (d e : Nat) (T : (Nat → IV) → Nat → IV) (f0 : Nat → IV) (D0 D1 : (Nat → IV) → Prop) (H : MH) (j : Nat) (ρ : Loc) (H' : MH) : Prop
 | mk (r eh eg : Nat) (h : Nat → IV) (hr : hρ C d e eh r eg = ρ) (hj : j + r = 3) (d0 : D0 h) (d1 : 1 ≤ r → D1 h) (hs : r = 3 → withinN (C.cnt + 1) (jnF f0 (T h)) h = true) (g : Go C m l none H H') (hh : EnvAt C H' eh h) (hg : EnvAt C H' eg (jnF f0 (T h))) : LI C m l d e T f0 D0 D1 H j ρ H'
theorem c_loop_head (ht : TurnC C (n + 13) l d P T sr) {f0 S : Nat → IV} {D0 D1 : (Nat → IV) → Prop} (R : Rest C P T f0 S D0 D1) {m : Bool} {H : MH} {e : Nat} (i : Inv C m l H) (he : EnvAt C H e f0) : Run C m l none H S (n + 15) .k_loop_head [.obj C.st, .obj e, .obj (C.ln d)] := by
 obtain ⟨H1, H2, e1, eg, a1, a2, g2, hg⟩ := c_grown n Z ht (R.pre _ R.start) i he he
 refine Run.of (cl_run (ρ := [(.k_st, .obj C.st), (.k_env, .obj e), (.k_node, .obj (C.ln d))]) rfl rfl rfl (w_seg 3 [fc a1, fc a2] (y := (.next, hρ C d e e 0 eg, H2)) (by kernel_rfl) ?_))
 refine wl_whl (LI C m l d e T f0 D0 D1 H) ?_ (j := 3) (Nat.le_of_ble_eq_true rfl) ⟨0, e, eg, f0, rfl, rfl, R.start, (fun h => nomatch h), (fun h => nomatch h), g2, he.go g2, hg⟩
 rintro j _ H' ⟨r, eh, eg, h, rfl, hj, d0, d1, hst, g, hh, hgr⟩
 refine W2.s (c_env_within (n + 12) H' hgr hh) ⟨fun hx => ?_, fun hx => ?_⟩
 ·have hr3 : r ≠ 3 := fun e => by rw [hst e] at hx; cases hx
  refine ⟨j - 1, by omega, ?_⟩
  have fin : ∀ h' eh' H3, Go C m l none H' H3 → EnvAt C H3 eh' h' → D0 h' → D1 h' → (r + 1 = 3 → withinN (C.cnt + 1) (jnF f0 (T h')) h' = true) → wS (cf (n + 14)) (.seq (.asg .k_grown (.call (.glob .k_join_envs) (.cons (.loc .k_env) (.cons (.call (.glob .k_quiet_turn) (.cons (.loc .k_st) (.cons (.loc .k_head) (.cons (.loc .k_node) .nil)))) .nil)))) .nil) (hρ C d e eh' (r + 1) eg) H3 fun fl ρ' H' => fl = .next ∧ ∃ ρ'', Sub ρ'' ρ' ∧ LI C m l d e T f0 D0 D1 H (j - 1) ρ'' H' := fun h' eh' H3 g3 hh' d0' d1' hst' => by
   have g03 := g.or_none g3
   obtain ⟨H4, H5, e4, eg', a4, a5, g5, hg5⟩ := c_grown n Z ht (R.pre _ d0') g03.inv (he.go g03) hh'
   exact W2.s a4 (W2.s a5 ⟨rfl, _, Sub.refl _, r + 1, eh', eg', h', rfl, by omega, d0', fun _ => d1', hst', g03.or_none g5, hh'.go g5, hg5⟩)
  if h2 : (r : Int) + 1 ≤ 2 then
   exact w_seg 2 [fb (decide_eq_true h2)] (y := (.next, hρ C d e eg (r + 1) eg, H')) (by kernel_rfl) (fin _ eg H' (.refl g.inv) hgr (R.weak _ (R.join _ d0)) (R.join _ d0) fun e => by omega)
  else
   have a := c_widen_env (n + 11) H' hh hgr (cnt_le Z)
   have d1 := d1 (by omega)
   exact w_seg 2 [fb (decide_eq_false h2), fc a] (y := (.next, hρ C d e H'.length (r + 1) eg, _)) (by kernel_rfl) (fin _ _ _ (.app g.inv _) (app_new _ _) (R.weak _ (R.wide _ d1)) (R.wide _ d1) fun _ => R.stay _ d1)
 ·have hx : withinN (C.cnt + 1) (jnF f0 (T h)) h = true := by rw [← Bool.not_not (withinN _ _ _)]; exact congrArg (!·) hx
  have hS := hgr.congr (R.done h d0 hx)
  obtain ⟨H4, H5, e4, e5, a4, a5, g5, hg5⟩ := c_grown n Z ht R.preS g.inv (he.go g) hS
  have w2 := c_env_within (n + 12) H5 hg5 (hS.go g5)
  rw [R.again] at w2
  exact w_ret [fc a4, fc a5, fc w2] (v := .obj eg) (H' := H5) (by kernel_rfl) rfl ⟨eg, rfl, g.or_none g5, hS.go g5⟩
theorem run_loop1 (hl : l < 2) (ht : TurnC C (n + 13) (l + 1) d P T sr) (ht' : TurnC C (n + 15) (l + 1) d P T sr) {f0 S : Nat → IV} {D0 D1 : (Nat → IV) → Prop} (R : Rest C P T f0 S D0 D1) (hS : C.top d + 1 ≤ (S d).2) {m : Bool} {H : MH} {e : Nat} (i : Inv C m l H) (he : EnvAt C H e f0) :
  Run C m l (if m then some (sr S) else none) H (upd S d (C.top d + 1, (S d).2)) (n + 16) .k_run_loop [.obj C.st, .obj e, .obj (C.ln d)] := by
 have s0 := i.st
 have g1 := Go.st (m' := m) (l' := l + 1) Z.hst i
 refine hide fun Ψ kΨ => ?_
 obtain ⟨e2, H2, a2, g2, h2⟩ := c_loop_head n Z ht R g1.inv (he.go g1)
 obtain ⟨_, H3, a3, ⟨eb, v2, rfl, g3, hb, ho⟩⟩ := ht' m H2 e2 _ R.preS g2.inv h2
 unfold outO at ho
 rw [if_pos hS] at ho
 obtain ⟨e4, rfl, h4⟩ := ho
 refine kΨ ?_
 have s3 := g3.inv.st
 have g4 := Go.st (m' := m) (l' := l) Z.hst g3.inv
 have b4 : setAttrV H3 (.obj C.st) .k_loops (.int (l + 1 - 1)) = some (H3.set C.st (stO C.sl C.w m l)) := by
  rw [Int.add_sub_cancel]
  exact set_attr s3 rfl
 exact ⟨e4, _, cl_s (ρ := [(.k_st, .obj C.st), (.k_env, .obj e), (.k_node, .obj (C.ln d))]) [fv (attr_s (n := .k_loops) s0 rfl), fb (o := decide (l ≥ 2)) (decide_eq_false (Int.not_le.mpr hl)), fv (attr_s (n := .k_loops) s0 rfl), fh (set_attr (n := .k_loops) (w := .int (l + 1)) s0 rfl), fc a2, fc a3, fv (attr_s (n := .k_loops) s3 rfl), fh b4] (by kernel_rfl) rfl rfl rfl rfl, (g1.or_none (g2.or_none g3)).none_or g4, EnvAt.go h4 g4⟩
end
noncomputable def LoopC (C : Ctx) (n : Nat) (l : Int) (d : Nat) (P : (Nat → IV) → Prop) (G : (Nat → IV) → Nat → IV) (sr : (Nat → IV) → Bool) : Prop := ∀ m H e f, P f → Inv C m l H → EnvAt C H e f → Run C m l (if m then some (sr f) else none) H (G f) n .k_run_loop [.obj C.st, .obj e, .obj (C.ln d)]
inductive LoopS (C : Ctx) (d : Nat) (ys : List Nat) : List Nat → Prop
 | for_ : IsFor C d ys → LoopS C d ys [C.ln d]
 | whl {x1 c z : Nat} {v : V} : IsWhl C d ys → Nd C.B x1 .k_assign v [c, z] → IsVarI C.B c d → IsConst C.B z 0 → LoopS C d ys [x1, C.ln d]
section
variable {C : Ctx} (Z : Su C) {l : Int} {d : Nat} {ys xs : List Nat} {P : (Nat → IV) → Prop} {F G : (Nat → IV) → Nat → IV} {sr : (Nat → IV) → Bool}
include Z
theorem run_for_node (n : Nat) (hd : d < C.cnt) (hf : IsFor C d ys) (hl : LoopC C (n + 6) l d P G sr) {m : Bool} {H : MH} {e : Nat} {f : Nat → IV} (hP : P (upd f d (0, 0))) (i : Inv C m l H) (he : EnvAt C H e f) :
  Run C m l (if m then some (sr (upd f d (0, 0))) else none) H (G (upd f d (0, 0))) (n + 8) .k_run [.obj C.st, .obj e, .obj (C.ln d)] := by
 refine hide fun Ψ kΨ => ?_
 obtain ⟨c, z, tp, blk, ⟨pl, ty, kl, s, b1, b2⟩, hc, hz, ht, hk⟩ := hf
 obtain ⟨s1, n1⟩ := i.ext.node b1
 have n2 := i.ext.get b2 rfl
 have hd' := Nat.le_of_lt hd
 have e1 := look_var (n + 4) Z i (hc.ext i.ext).var he hd'
 have e2 := look_const (n + 3) (st := C.st) (env := .obj e) (hz.ext i.ext)
 have e3 := c_known (n + 5) H (0, 0)
 have e4 := slot_var (n + 5) Z i (hc.ext i.ext).var hd'
 obtain ⟨e1', H1, e5, g1, h1⟩ := mk_env (n + 4) Z (0, 0) i he hd'
 obtain ⟨e2', H2, e6, g2, h2⟩ := hl m H1 e1' _ hP g1.inv h1
 refine kΨ ?_
 have ea : cf (n + 7) (.g .k_run_for) [.obj C.st, .obj e, .obj (C.ln d)] H = some (.obj e2', H2) :=
  cl_s (ρ := [(.k_st, .obj C.st), (.k_env, .obj e), (.k_node, .obj (C.ln d))]) [fv (attr_s (n := .k_kids) n1 rfl), fv (sub_l (k := 0) n2 rfl), fc e1, fv (attr_s (n := .k_kids) n1 rfl), fv (sub_l (k := 1) n2 rfl), fc e2, fc e3, fv (attr_s (n := .k_kids) n1 rfl), fv (sub_l (k := 0) n2 rfl), fc e4, fb (decide_eq_true (slot_ge d)), fc e5, fc e6] (by kernel_rfl) rfl rfl rfl rfl
 exact ⟨e2', H2, cl_s (ρ := [(.k_st, .obj C.st), (.k_env, .obj e), (.k_node, .obj (C.ln d))]) [fv (attr_s (n := .k_op) n1 rfl), fc ea] (by kernel_rfl) rfl rfl rfl rfl, g1.or_none g2, h2⟩
theorem nest_step (n : Nat) (hd : d < C.cnt) (hs : LoopS C d ys xs) (hl : ∀ k, LoopC C (k + n) l d P G sr) (k : Nat) :
  BodyC C (k + (n + 8)) l (fun f => P (upd f d (0, 0))) (fun f => G (upd f d (0, 0))) (fun f => sr (upd f d (0, 0))) xs := by
 intro m H e f hP i he
 cases hs with
 | for_ hf =>
  have hl6 := hl (k + 6)
  rw [Nat.add_right_comm] at hl6
  refine hide fun Ψ kΨ => ?_
  obtain ⟨e', H', a, g, h⟩ := run_for_node Z (k + n) hd hf hl6 hP i he
  refine kΨ ?_
  exact ⟨H', e', .cons a g.inv .nil, g, h⟩
 | whl hw h1 h2 h3 =>
  have e2 := look_const (k + n + 3) (st := C.st) (env := .obj e) (h3.ext i.ext)
  refine hide fun Ψ kΨ => ?_
  obtain ⟨H1, e1, a1, g1, he1⟩ := run_asg (k + n) Z i h1 h2 he (Nat.le_of_lt hd) e2 (.refl i)
  have hl7 := hl (k + 7)
  rw [Nat.add_right_comm] at hl7
  obtain ⟨e2, H2, a2, g2, he2⟩ := hl7 m H1 e1 _ hP g1.inv he1
  obtain ⟨_, _, _, _, _, ⟨pl, ty, kl, s, b1, b2⟩, _⟩ := hw
  obtain ⟨s1, n1⟩ := g1.inv.ext.node b1
  refine kΨ ?_
  have a3 : cf (k + n + 8) (.g .k_run) [.obj C.st, .obj e1, .obj (C.ln d)] H1 = some (.obj e2, H2) :=
   cl_s (ρ := [(.k_st, .obj C.st), (.k_env, .obj e1), (.k_node, .obj (C.ln d))]) [fv (attr_s (n := .k_op) n1 rfl), fc a2] (by kernel_rfl) rfl rfl rfl rfl
  exact ⟨H2, e2, .cons a1 g1.inv (.cons a3 g2.inv .nil), g1.or_none g2, he2⟩
theorem TurnC.mk (n : Nat) (hd : d < C.cnt) (hs : LoopS C d ys xs) (hb : BodyC C (n + 10) l P F sr ys) :
  TurnC C (n + 13) l d (fun h => GoodX (C.top d) (h d) ∧ P (insF d (C.top d) h)) (backF d (C.top d) F) (fun h => sr (insF d (C.top d) h)) := by
 cases hs with
 | for_ hf => exact for_turn n Z hd hf hb
 | whl hw => exact whl_turn n Z hd hw hb
end
inductive InnerS (C : Ctx) : List Nat → Prop
 | mk {a1 a2 y x ad : Nat} {v1 v2 : V} (h1 : Nd C.B a1 .k_assign v1 [C.el, y]) (h2 : IsConst C.B y 1) (h3 : Nd C.B a2 .k_assign v2 [x, ad]) (h4 : IsVarI C.B x C.cnt) (h5 : IsAdd C.B ad C.cnt) : InnerS C [a1, a2]
noncomputable def F0 (C : Ctx) (f : Nat → IV) : Nat → IV := upd f C.cnt (addI (f C.cnt) (1, 1))
noncomputable def sr0 (C : Ctx) (f : Nat → IV) : Bool := withinI (f (C.cnt - 1)) (0, 4)
theorem inner_body {C : Ctx} (Z : Su C) {l : Int} {xs : List Nat} (h : InnerS C xs) (k : Nat) : BodyC C (k + 10) l (fun _ => True) (F0 C) (sr0 C) xs := by
 intro m H e f _ i he
 refine hide fun Ψ kΨ => ?_
 obtain ⟨h1, h2, h3, h4, h5⟩ := h
 obtain ⟨H1, a, g1⟩ := run_asg_el (k + 2) Z i h1 h2 he
 have he1 := he.go g1
 obtain ⟨H2, b, g2⟩ := look_add (k + 2) Z g1.inv (h5.ext g1.inv.ext) he1 (Nat.le_refl _)
 obtain ⟨H3, e3, c, g3, he3⟩ := run_asg (k + 2) Z g1.inv h3 h4 he1 (Nat.le_refl _) b g2
 refine kΨ ?_
 exact ⟨H3, e3, .cons a g1.inv (.cons c g3.inv .nil), g1.none_or g3, he3⟩
theorem upd_same (f : Nat → IV) (s : Nat) (x : IV) : upd f s x s = x := if_pos rfl
theorem upd_ne {f : Nat → IV} {s i : Nat} {x : IV} (h : i ≠ s) : upd f s x i = f i := if_neg h
theorem R2_upd {d cnt i : Nat} (h : d ≤ cnt) (top : Int) (f : Nat → IV) (x : IV) : R2 d cnt top (upd f d x) i = R2 d cnt top f i := by
 unfold R2
 if h1 : i = d then rw [h1, upd_same, upd_same]
 else
  rw [upd_ne h1, upd_ne h1]
  unfold looseF
  rw [upd_ne h1]
theorem deep_step (n : Nat) {C : Ctx} (Z : Su C) {l : Int} (hl : 2 ≤ l) {d : Nat} {ys xs : List Nat} {F : (Nat → IV) → Nat → IV} {sr : (Nat → IV) → Bool} (hq : LoopQ C d) (hs : LoopS C d ys xs) (hb : ∀ k, BodyC C (k + (n + 10)) l (fun _ => True) F sr ys) (hsr : ∀ f, f d = (-2147483648, C.top d) → sr f = false) (k : Nat) :
  BodyC C (k + (n + 22)) l (fun _ => True) (fun f => R2 d C.cnt (C.top d) f) (fun _ => false) xs := by
 have hlc : ∀ k, LoopC C (k + (n + 14)) l d (fun _ => True) (R2 d C.cnt (C.top d)) (fun _ => false) := fun k m H e f _ i he => by
  have ht := TurnC.mk Z (k + n) hq.1 hs (by have := hb k; rwa [← Nat.add_assoc] at this)
  have hfu := loose_at (f := f) (Nat.le_of_lt hq.1)
  have htop := Z.htop d
  have r := run_loop2 (k + n) Z hl hq ht ⟨by rw [hfu]; exact good_full htop, trivial⟩ i he
  have h4 : insF d (C.top d) (looseF d C.cnt f) d = (-2147483648, C.top d) := by
   refine (if_pos rfl : _ = insX (C.top d) (looseF d C.cnt f d)).trans ?_
   rw [hfu]
   exact Prod.ext rfl (Int.min_eq_right (show C.top d ≤ 2147483647 by omega))
  rw [hsr _ h4] at r
  exact r
 intro m H e f _ i he
 obtain ⟨H', e', a, g, h⟩ := nest_step Z (n + 14) hq.1 hs hlc k m H e f trivial i he
 exact ⟨H', e', a, g, h.congr fun j _ => R2_upd (Nat.le_of_lt hq.1) _ _ _⟩
noncomputable def F2 (C : Ctx) (d : Nat) (f : Nat → IV) : Nat → IV := if d = C.cnt then F0 C f else R2 d C.cnt (C.top d) f
noncomputable def sr2 (C : Ctx) (d : Nat) (f : Nat → IV) : Bool := if d = C.cnt then sr0 C f else false
inductive Nest (C : Ctx) : Nat → List Nat → Prop
 | base {xs : List Nat} : InnerS C xs → Nest C C.cnt xs
 | loop {d : Nat} {ys xs : List Nat} : d < C.cnt → Nest C (d + 1) ys → LoopS C d ys xs → Nest C d xs
theorem Nest.le {C : Ctx} {d : Nat} {xs : List Nat} (h : Nest C d xs) : d ≤ C.cnt := by
 cases h with
 | base => exact Nat.le_refl _
 | loop h => exact Nat.le_of_lt h
theorem deep {C : Ctx} (Z : Su C) {l : Int} (hl : 2 ≤ l) (hq : ∀ d, d < C.cnt → LoopQ C d) {d : Nat} {xs : List Nat} (h : Nest C d xs) : ∀ k, BodyC C (k + (10 + 12 * (C.cnt - d))) l (fun _ => True) (F2 C d) (sr2 C d) xs := by
 induction h with
 | base h =>
  intro k
  rw [Nat.sub_self, show F2 C C.cnt = F0 C from funext fun f => if_pos rfl, show sr2 C C.cnt = sr0 C from funext fun f => if_pos rfl]
  exact inner_body Z (l := l) h k
 | @loop d ys xs hd hn hs ih =>
  intro k
  have hne := Nat.ne_of_lt hd
  rw [show F2 C d = fun f => R2 d C.cnt (C.top d) f from funext fun f => if_neg hne, show sr2 C d = fun _ => false from funext fun f => if_neg hne, show 10 + 12 * (C.cnt - d) = 12 * (C.cnt - (d + 1)) + 22 by omega]
  refine deep_step (12 * (C.cnt - (d + 1))) Z hl (hq d hd) hs (F := F2 C (d + 1)) (sr := sr2 C (d + 1)) (fun k => by
   have := ih k
   rwa [Nat.add_comm 10] at this) (fun f hf => ?_) k
  unfold sr2
  if h : d + 1 = C.cnt then
   rw [if_pos h]
   unfold sr0
   rw [show C.cnt - 1 = d by omega, hf]
   rfl
  else
   rw [if_neg h]
theorem clip_in {a b : Int} (h1 : -2147483648 ≤ a) (h2 : a ≤ 2147483647) (h3 : a ≤ b) : clipI a b = (a, min b 2147483647) := by
 unfold clipI
 rw [Int.max_eq_left h1, if_neg (by omega)]
theorem widen_zero {y y' : Int} : widenI (0, y) (0, y') = (0, if y' ≤ y then y else 2147483647) := by unfold widenI; rw [if_pos (Int.le_refl _)]
theorem within_zero {y y' : Int} (h : y ≤ y') : withinI (0, y) (0, y') = true := by
 unfold withinI
 rw [decide_eq_true h]; rfl
theorem zero_within {y y' : Int} (h : withinI (0, y) (0, y') = true) : y ≤ y' := of_decide_eq_true (Bool.and_eq_true _ _ ▸ h).2
theorem within_self (x : IV) : withinI x x = true := by
 unfold withinI
 rw [decide_eq_true (Int.le_refl _), decide_eq_true (Int.le_refl _)]; rfl
theorem wide_self (x : IV) : widenI x x = x := by unfold widenI; rw [if_pos (Int.le_refl _), if_pos (Int.le_refl _)]
theorem join_self (x : IV) : joinI x x = x := by unfold joinI; rw [Int.min_self, Int.max_self]
noncomputable def OwnX (x : IV) : Prop := ∃ y, x = (0, y) ∧ 0 ≤ y ∧ y ≤ 2147483647
structure Grow (f s : IV) (φ : Int → Int) : Prop where
 f0 : OwnX f
 s0 : ∃ σ, s = (0, σ) ∧ 0 ≤ σ ∧ σ ≤ 2147483647 ∧ φ σ ≤ σ
 b : ∀ y, 0 ≤ y → y ≤ 2147483647 → 0 ≤ φ y ∧ φ y ≤ 2147483647 ∧ (φ y ≤ y → (0, φ y) = s)
noncomputable abbrev Kd : Type := Option (Int → Int)
noncomputable def KOk (k : Kd) (f s : IV) : Prop := match k with
 | some φ => Grow f s φ
 | none => True
noncomputable def Dk0 (k : Kd) (f s x : IV) : Prop := match k with
 | some _ => OwnX x
 | none => x = f ∨ x = s
noncomputable def Dk1 (k : Kd) (s x : IV) : Prop := match k with
 | some _ => OwnX x
 | none => x = s
noncomputable def Jk (k : Kd) (s x v : IV) : Prop := match k with
 | some φ => ∀ y, x = (0, y) → 0 ≤ y → y ≤ 2147483647 → v = (0, φ y)
 | none => v = s
section
variable {k : Kd} {f s x v v' : IV}
theorem dk_weak (h : Dk1 k s x) : Dk0 k f s x := by
 cases k with
 | none => exact .inr h
 | some φ => exact h
theorem dk_start (h : KOk k f s) : Dk0 k f s f := by
 cases k with
 | none => exact .inl rfl
 | some φ => exact h.f0
theorem dk_s (h : KOk k f s) : Dk1 k s s := by
 cases k with
 | none => rfl
 | some φ =>
  refine hide fun Ψ kΨ => ?_
  obtain ⟨σ, e, h1, h2, _⟩ := h.s0
  refine kΨ ?_
  exact ⟨σ, e, h1, h2⟩
theorem dk_join (h : KOk k f s) (d : Dk0 k f s x) (j : Jk k s x v) : Dk1 k s v := by
 cases k with
 | none => exact j
 | some φ =>
  refine hide fun Ψ kΨ => ?_
  obtain ⟨y, e, h1, h2⟩ := d
  refine kΨ ?_
  exact ⟨φ y, j y e h1 h2, (h.b y h1 h2).1, (h.b y h1 h2).2.1⟩
theorem dk_wide (d : Dk1 k s x) (j : Jk k s x v) : Dk1 k s (widenI x v) := by
 cases k with
 | none =>
  show widenI x v = s
  rw [show x = s from d, show v = s from j]; exact wide_self s
 | some φ =>
  refine hide fun Ψ kΨ => ?_
  obtain ⟨y, e, h1, h2⟩ := d
  refine kΨ ?_
  refine ⟨_, by rw [j y e h1 h2, e, widen_zero], ?_⟩
  split
  ·exact ⟨h1, h2⟩
  ·exact ⟨by decide, by decide⟩
theorem dk_stay (h : KOk k f s) (d : Dk1 k s x) (j : Jk k s x v) (j' : Jk k s (widenI x v) v') : withinI v' (widenI x v) = true := by
 cases k with
 | none =>
  have e : widenI x v = s := by rw [show x = s from d, show v = s from j]; exact wide_self s
  rw [e, show v' = s from j']; exact within_self s
 | some φ =>
  refine hide fun Ψ kΨ => ?_
  obtain ⟨y, e, h1, h2⟩ := d
  refine kΨ ?_
  have ew : widenI x v = (0, if φ y ≤ y then y else 2147483647) := by rw [j y e h1 h2, e, widen_zero]
  rw [ew] at j' ⊢
  if hc : φ y ≤ y then
   rw [if_pos hc] at j' ⊢
   rw [j' y rfl h1 h2]; exact within_zero hc
  else
   rw [if_neg hc] at j' ⊢
   rw [j' _ rfl (by decide) (by decide)]; exact within_zero (h.b _ (by decide) (by decide)).2.1
theorem dk_done (h : KOk k f s) (d : Dk0 k f s x) (j : Jk k s x v) (w : withinI v x = true) : v = s := by
 cases k with
 | none => exact j
 | some φ =>
  refine hide fun Ψ kΨ => ?_
  obtain ⟨y, e, h1, h2⟩ := d
  refine kΨ ?_
  rw [j y e h1 h2, e] at w
  rw [j y e h1 h2]; exact (h.b y h1 h2).2.2 (zero_within w)
theorem dk_again (h : KOk k f s) (j : Jk k s s v) : withinI v s = true := by
 cases k with
 | none => rw [show v = s from j]; exact within_self s
 | some φ =>
  refine hide fun Ψ kΨ => ?_
  obtain ⟨σ, e, h1, h2, h3⟩ := h.s0
  refine kΨ ?_
  rw [j σ e h1 h2, e]; exact within_zero h3
end
theorem rest_of {C : Ctx} {P : (Nat → IV) → Prop} {T : (Nat → IV) → Nat → IV} {f S : Nat → IV} (k : Nat → Kd) (hk : ∀ i, i ≤ C.cnt → KOk (k i) (f i) (S i)) (hJ : ∀ h, (∀ i, i ≤ C.cnt → Dk0 (k i) (f i) (S i) (h i)) → P h ∧ ∀ i, i ≤ C.cnt → Jk (k i) (S i) (h i) (joinI (f i) (T h i))) :
  Rest C P T f S (fun h => ∀ i, i ≤ C.cnt → Dk0 (k i) (f i) (S i) (h i)) (fun h => ∀ i, i ≤ C.cnt → Dk1 (k i) (S i) (h i)) := by
 have wk : ∀ h : Nat → IV, (∀ i, i ≤ C.cnt → Dk1 (k i) (S i) (h i)) → ∀ i, i ≤ C.cnt → Dk0 (k i) (f i) (S i) (h i) := fun h d i hi => dk_weak (d i hi)
 have ss : ∀ i, i ≤ C.cnt → Dk1 (k i) (S i) (S i) := fun i hi => dk_s (hk i hi)
 have wd : ∀ h : Nat → IV, (∀ i, i ≤ C.cnt → Dk1 (k i) (S i) (h i)) → ∀ i, i ≤ C.cnt → Dk1 (k i) (S i) (wdF h (jnF f (T h)) i) := fun h d i hi => dk_wide (d i hi) ((hJ h (wk h d)).2 i hi)
 exact ⟨fun i hi => dk_start (hk i hi), fun h d => (hJ h d).1, (hJ S (wk S ss)).1, fun h d i hi => dk_join (hk i hi) (d i hi) ((hJ h d).2 i hi), wk, wd,
  fun h d => (withinN_iff _ _ _).mpr fun i hi => dk_stay (hk i (Nat.le_of_lt_succ hi)) (d i (Nat.le_of_lt_succ hi)) ((hJ h (wk h d)).2 i (Nat.le_of_lt_succ hi)) ((hJ _ (wk _ (wd h d))).2 i (Nat.le_of_lt_succ hi)),
  fun h d w i hi => dk_done (hk i hi) (d i hi) ((hJ h d).2 i hi) ((withinN_iff _ _ _).mp w i (Nat.lt_succ_of_le hi)),
  (withinN_iff _ _ _).mpr fun i hi => dk_again (hk i (Nat.le_of_lt_succ hi)) ((hJ S (wk S ss)).2 i (Nat.le_of_lt_succ hi))⟩
theorem OwnX.good {x : IV} {top : Int} (ht : 0 ≤ top ∧ top ≤ 6) (o : OwnX x) : GoodX top x := by
 obtain ⟨y, rfl, h1, h2⟩ := o
 exact ⟨(by decide : (-2147483648 : Int) ≤ 0), ht.1, h1, h2⟩
theorem own_grow {top : Int} (ht : 0 ≤ top ∧ top ≤ 6) : Grow (0, 0) (0, top + 1) fun y => min y top + 1 :=
 ⟨⟨0, rfl, by decide, by decide⟩, ⟨top + 1, rfl, by omega, by omega, by omega⟩, fun y h1 h2 => ⟨by omega, by omega, fun h => Prod.ext rfl (show min y top + 1 = top + 1 by omega)⟩⟩
theorem own_j {top y : Int} (ht : 0 ≤ top ∧ top ≤ 6) (h : 0 ≤ y) : joinI (0, 0) (addI (insX top (0, y)) (1, 1)) = (0, min y top + 1) := by
 have e : addI (insX top (0, y)) (1, 1) = (1, min (min y top + 1) 2147483647) := clip_in (show (-2147483648 : Int) ≤ 0 + 1 by decide) (show (0 : Int) + 1 ≤ 2147483647 by decide) (show (0 : Int) + 1 ≤ min y top + 1 by omega)
 rw [e]
 exact Prod.ext rfl (show max 0 (min (min y top + 1) 2147483647) = min y top + 1 by omega)
theorem tot_grow {z : Int} (hz : 0 ≤ z ∧ z ≤ 2147483647) : Grow (0, z) (0, 2147483647) fun y => max z (min (y + 1) 2147483647) :=
 ⟨⟨z, rfl, hz⟩, ⟨_, rfl, by decide, by decide, by omega⟩, fun y h1 h2 => ⟨by omega, by omega, fun h => Prod.ext rfl (show max z (min (y + 1) 2147483647) = 2147483647 by omega)⟩⟩
theorem tot_j {z y : Int} (hz : 0 ≤ z) (h : 0 ≤ y) : joinI (0, z) (addI (0, y) (1, 1)) = (0, max z (min (y + 1) 2147483647)) := by
 have e : addI (0, y) (1, 1) = (1, min (y + 1) 2147483647) := clip_in (show (-2147483648 : Int) ≤ 0 + 1 by decide) (show (0 : Int) + 1 ≤ 2147483647 by decide) (show (0 : Int) + 1 ≤ y + 1 by omega)
 rw [e]; rfl
section
variable {C : Ctx} {d : Nat} {F : (Nat → IV) → Nat → IV}
theorem T_own (h : Nat → IV) (hF : F (insF d (C.top d) h) d = insX (C.top d) (h d)) : backF d (C.top d) F h d = addI (insX (C.top d) (h d)) (1, 1) := by
 have : backF d (C.top d) F h d = addI (F (insF d (C.top d) h) d) (1, 1) := if_pos rfl
 rw [this, hF]
theorem T_oth {i : Nat} (hi : i ≠ d) (h : Nat → IV) : backF d (C.top d) F h i = F (insF d (C.top d) h) i := if_neg hi
theorem insF_oth {i : Nat} {top : Int} (hi : i ≠ d) (h : Nat → IV) : insF d top h i = h i := if_neg hi
theorem insF_own {top : Int} (h : Nat → IV) : insF d top h d = insX top (h d) := if_pos rfl
end
theorem restB {C : Ctx} (Z : Su C) {d : Nat} (hd : d ≤ C.cnt) {f s : Nat → IV} {F : (Nat → IV) → Nat → IV} {P : (Nat → IV) → Prop} (k : Nat → Kd) (h0 : f d = (0, 0)) (hFd : ∀ h, F (insF d (C.top d) h) d = insX (C.top d) (h d))
  (hk : ∀ i, i ≤ C.cnt → i ≠ d → KOk (k i) (f i) (s i))
  (hF : ∀ h, OwnX (h d) → (∀ i, i ≤ C.cnt → i ≠ d → Dk0 (k i) (f i) (s i) (h i)) → P (insF d (C.top d) h) ∧ ∀ i, i ≤ C.cnt → i ≠ d → Jk (k i) (s i) (h i) (joinI (f i) (F (insF d (C.top d) h) i))) :
  ∃ D0 D1, Rest C (fun h => GoodX (C.top d) (h d) ∧ P (insF d (C.top d) h)) (backF d (C.top d) F) f (upd s d (0, C.top d + 1)) D0 D1 := by
 have htop := Z.htop d
 have kd : (fun i => if i = d then some (fun y => min y (C.top d) + 1) else k i : Nat → Kd) d = some (fun y => min y (C.top d) + 1) := if_pos rfl
 have ko : ∀ i, i ≠ d → (fun i => if i = d then some (fun y => min y (C.top d) + 1) else k i : Nat → Kd) i = k i := fun i h => if_neg h
 generalize (fun i => if i = d then some (fun y => min y (C.top d) + 1) else k i : Nat → Kd) = k' at kd ko
 refine ⟨_, _, rest_of k' (fun i hi => ?_) fun h hh => ?_⟩
 ·if e : i = d then rw [e, kd, h0, upd_same]; exact own_grow htop
  else rw [ko i e, upd_ne e]; exact hk i hi e
 ·have o : OwnX (h d) := by
   have := hh d hd
   rw [kd] at this; exact this
  obtain ⟨p, q⟩ := hF h o fun i hi e => by
   have := hh i hi
   rw [ko i e, upd_ne e] at this; exact this
  refine ⟨⟨o.good htop, p⟩, fun i hi => ?_⟩
  if e : i = d then
   rw [e, kd, h0, T_own h (hFd h)]
   exact fun y ey h1 _ => by rw [ey]; exact own_j htop h1
  else rw [ko i e, upd_ne e, T_oth e]; exact q i hi e
theorem restA {C : Ctx} (Z : Su C) {d : Nat} (hd : d + 1 = C.cnt) {f : Nat → IV} (h0 : f d = (0, 0)) (hz : OwnX (f C.cnt)) :
  ∃ D0 D1, Rest C (fun h => GoodX (C.top d) (h d) ∧ True) (backF d (C.top d) (F0 C)) f (upd (upd f C.cnt (0, 2147483647)) d (0, C.top d + 1)) D0 D1 := by
 refine hide fun Ψ kΨ => ?_
 obtain ⟨z, hz, hz1⟩ := hz
 refine kΨ ?_
 have hne : d ≠ C.cnt := by omega
 have kd : (fun i => if i = C.cnt then some (fun y => max z (min (y + 1) 2147483647)) else none : Nat → Kd) C.cnt = some (fun y => max z (min (y + 1) 2147483647)) := if_pos rfl
 have ko : ∀ i, i ≠ C.cnt → (fun i => if i = C.cnt then some (fun y => max z (min (y + 1) 2147483647)) else none : Nat → Kd) i = none := fun i h => if_neg h
 generalize (fun i => if i = C.cnt then some (fun y => max z (min (y + 1) 2147483647)) else none : Nat → Kd) = k at kd ko
 refine restB Z (F := F0 C) (P := fun _ => True) (by omega) k h0 (fun h => (upd_ne hne).trans (insF_own h)) (fun i _ _ => ?_) fun h _ hh => ⟨trivial, fun i hi e => ?_⟩
 ·if e : i = C.cnt then rw [e, kd, hz, upd_same]; exact tot_grow hz1
  else rw [ko i e]; trivial
 ·if e2 : i = C.cnt then
   rw [e2, kd, show F0 C (insF d (C.top d) h) C.cnt = addI (h C.cnt) (1, 1) from (upd_same _ _ _).trans (by rw [insF_oth (Ne.symm hne)]), hz]
   exact fun y ey h1 _ => by rw [ey]; exact tot_j hz1.1 h1
  else
   have := hh i hi e
   rw [ko i e2, upd_ne e2] at this ⊢
   show joinI (f i) (F0 C (insF d (C.top d) h) i) = f i
   rw [show F0 C (insF d (C.top d) h) i = h i from (upd_ne e2).trans (insF_oth e h), this.elim id id, join_self]
theorem outer_step (n : Nat) {C : Ctx} (Z : Su C) {l : Int} (hl : l < 2) {d : Nat} {ys xs : List Nat} {P P0 : (Nat → IV) → Prop} {F G : (Nat → IV) → Nat → IV} {sr sr' : (Nat → IV) → Bool} (hd : d < C.cnt) (hs : LoopS C d ys xs) (hb : ∀ k, BodyC C (k + (n + 10)) (l + 1) P F sr ys)
  (hr : ∀ f, P0 f → f d = (0, 0) → ∃ S D0 D1, Rest C (fun h => GoodX (C.top d) (h d) ∧ P (insF d (C.top d) h)) (backF d (C.top d) F) f S D0 D1 ∧ S d = (0, C.top d + 1) ∧ (∀ i, i ≤ C.cnt → upd S d (C.top d + 1, C.top d + 1) i = G f i) ∧ sr (insF d (C.top d) S) = sr' f) (k : Nat) :
  BodyC C (k + (n + 24)) l (fun f => P0 (upd f d (0, 0))) (fun f => G (upd f d (0, 0))) (fun f => sr' (upd f d (0, 0))) xs := by
 have hlc : ∀ k, LoopC C (k + (n + 16)) l d (fun f => P0 f ∧ f d = (0, 0)) G sr' := fun k m H e f hf i he => by
  refine hide fun Ψ kΨ => ?_
  obtain ⟨S, D0, D1, R, s1, s2, s3⟩ := hr f hf.1 hf.2
  have ht := TurnC.mk Z (k + n) hd hs (by have := hb k; rwa [← Nat.add_assoc] at this)
  have ht' := TurnC.mk Z (k + n + 2) hd hs (by have := hb (k + 2); rwa [← Nat.add_assoc, Nat.add_right_comm k 2 n] at this)
  obtain ⟨e', H', a, g, h⟩ := run_loop1 (k + n) Z hl ht ht' R (by rw [s1]; exact Int.le_refl _) i he
  refine kΨ ?_
  rw [s1] at h
  rw [s3] at g
  exact ⟨e', H', a, g, h.congr s2⟩
 intro m H e f hf i he
 exact nest_step Z (n + 16) hd hs hlc k m H e f ⟨hf, upd_same _ _ _⟩ i he
theorem Nest.inv {C : Ctx} {d : Nat} {xs : List Nat} (h : Nest C d xs) (hd : d < C.cnt) : ∃ ys, Nest C (d + 1) ys ∧ LoopS C d ys xs := by
 cases h with
 | base => exact (Nat.lt_irrefl _ hd).elim
 | loop _ h1 h2 => exact ⟨_, h1, h2⟩
theorem Nest.inner {C : Ctx} {d : Nat} {xs : List Nat} (h : Nest C d xs) (hd : d = C.cnt) : InnerS C xs := by
 cases h with
 | base h => exact h
 | loop h => exact (Nat.ne_of_lt h hd).elim
noncomputable def resE (C : Ctx) (i : Nat) : IV := if i = 0 then (C.top 0 + 1, C.top 0 + 1) else if C.cnt = 1 then (0, 2147483647) else if i = 1 then (0, C.top 1 + 1) else if i = 2 then (0, 2147483647) else fullI
noncomputable def markB (C : Ctx) : Bool := if C.cnt ≤ 2 then decide (C.top (C.cnt - 1) ≤ 4) else false
noncomputable def cD (C : Ctx) (i : Nat) : IV := if i = 2 then (C.top 2 + 1, 2147483647) else fullI
theorem R2_at {C : Ctx} {i : Nat} (f : Nat → IV) (h : 2 ≤ i) (h2 : i ≤ C.cnt) : R2 2 C.cnt (C.top 2) f i = cD C i := by
 unfold R2 cD
 if h3 : i = 2 then rw [h3, upd_same, if_pos rfl]
 else
  rw [upd_ne h3, if_neg h3]; exact if_pos ⟨h, h2⟩
theorem R2_lt {C : Ctx} {i : Nat} (f : Nat → IV) (h : i < 2) : R2 2 C.cnt (C.top 2) f i = f i := by
 unfold R2
 rw [upd_ne (Nat.ne_of_lt h)]; exact if_neg fun x => Nat.not_le.mpr h x.1
theorem join_top {a : Int} (h : 0 ≤ a) : joinI (0, 0) (a + 1, a + 1) = (0, a + 1) := Prod.ext (Int.min_eq_left (show 0 ≤ a + 1 by omega)) (Int.max_eq_right (show 0 ≤ a + 1 by omega))
theorem srA {C : Ctx} {d : Nat} (hd : d + 1 = C.cnt) {S : Nat → IV} (hS : S d = (0, C.top d + 1)) : sr0 C (insF d (C.top d) S) = decide (C.top d ≤ 4) := by
 unfold sr0
 rw [← hd, Nat.add_sub_cancel, insF_own, hS]
 unfold withinI insX
 rw [show (0, min ((0 : Int), C.top d + 1).2 (C.top d)).2 = C.top d from Int.min_eq_right (show C.top d ≤ C.top d + 1 by omega), decide_eq_true (Int.le_refl _), Bool.true_and]
theorem Bd.congr {C : Ctx} {n : Nat} {m : Bool} {l : Int} {sr sr' : Option Bool} {ys : List Nat} {H : MH} {e : Nat} {g g' : Nat → IV} (h : Bd C n m l sr ys H e g) (hs : sr = sr') (k : ∀ i, i ≤ C.cnt → g i = g' i) : Bd C n m l sr' ys H e g' := by
 refine hide fun Ψ kΨ => ?_
 obtain ⟨H', e', a, go, ev⟩ := h
 refine kΨ ?_
 exact ⟨H', e', a, hs ▸ go, ev.congr k⟩
theorem innermost {C : Ctx} (Z : Su C) {l : Int} (hl : l < 2) {d : Nat} (hd : d + 1 = C.cnt) {ys xs : List Nat} (hs : LoopS C d ys xs) (hi : InnerS C ys) (k : Nat) :
  BodyC C (k + 24) l (fun f => OwnX (upd f d (0, 0) C.cnt)) (fun f => upd (upd (upd f d (0, 0)) C.cnt (0, 2147483647)) d (C.top d + 1, C.top d + 1)) (fun _ => decide (C.top d ≤ 4)) xs := by
 refine outer_step 0 Z hl (by omega) hs (fun k => inner_body Z hi k) (P := fun _ => True) (P0 := fun f => OwnX (f C.cnt)) (G := fun f => upd (upd f C.cnt (0, 2147483647)) d (C.top d + 1, C.top d + 1)) (sr' := fun _ => decide (C.top d ≤ 4)) (fun f hP h0 => ?_) k
 obtain ⟨D0, D1, R⟩ := restA Z hd h0 hP
 refine ⟨_, D0, D1, R, upd_same _ _ _, fun i hi => ?_, srA hd (upd_same _ _ _)⟩
 if e : i = d then rw [e, upd_same, upd_same] else rw [upd_ne e, upd_ne e, upd_ne e]
noncomputable abbrev f00 : Nat → IV := fun _ => (0, 0)
theorem upd00 (d i : Nat) : upd f00 d (0, 0) i = (0, 0) := by unfold upd; split <;> rfl
section
variable {C : Ctx} (Z : Su C) {xs : List Nat} (h : Nest C 0 xs) {n : Nat} {H : MH} {e : Nat} (i : Inv C true 0 H) (he : EnvAt C H e f00)
include Z h i he
theorem run1 (hc : C.cnt = 1) : Bd C (n + 98) true 0 (some (markB C)) xs H e (resE C) := by
 refine hide fun Ψ kΨ => ?_
 obtain ⟨ys, h1, hs⟩ := h.inv (by omega)
 refine kΨ ?_
 refine (innermost Z (by decide) hc.symm hs (h1.inner hc.symm) (n + 74) true H e _ ⟨0, upd00 _ _, by decide, by decide⟩ i he).congr ?_ fun j hj => ?_
 ·exact congrArg some (show decide (C.top 0 ≤ 4) = markB C by unfold markB; rw [if_pos (show C.cnt ≤ 2 by omega), hc])
 ·show upd (upd (upd f00 0 (0, 0)) C.cnt (0, 2147483647)) 0 (C.top 0 + 1, C.top 0 + 1) j = resE C j
  unfold resE
  if h0 : j = 0 then rw [h0, upd_same]; exact (if_pos rfl).symm
  else
   rw [upd_ne h0, show j = C.cnt by omega, upd_same, if_neg (by omega)]; exact (if_pos hc).symm
theorem run2 (hc : C.cnt = 2) : Bd C (n + 98) true 0 (some (markB C)) xs H e (resE C) := by
 obtain ⟨ys, h1, hs⟩ := h.inv (by omega)
 obtain ⟨zs, h2, hs1⟩ := h1.inv (by omega)
 have t1 := Z.htop 1
 have c1 : C.cnt ≠ 1 := by omega
 have c0 : C.cnt ≠ 0 := by omega
 have inn := innermost Z (l := 0 + 1) (by decide) (d := 1) hc.symm hs1 (h2.inner hc.symm)
 refine (outer_step 14 Z (l := 0) (by decide) (d := 0) (by omega) hs inn (P0 := fun f => ∀ i, f i = (0, 0)) (G := fun _ => resE C) (sr' := fun _ => decide (C.top 1 ≤ 4)) (fun f hP h0 => ?_) (n + 60) true H e _ (upd00 _) i he).congr ?_ fun _ _ => rfl
 ·obtain ⟨D0, D1, R⟩ := restB Z (d := 0) (Nat.zero_le _) (f := f) (s := fun i => if i = 1 then (0, C.top 1 + 1) else (0, 2147483647)) (F := fun f => upd (upd (upd f 1 (0, 0)) C.cnt (0, 2147483647)) 1 (C.top 1 + 1, C.top 1 + 1)) (P := fun f => OwnX (upd f 1 (0, 0) C.cnt)) (fun _ => none) h0
   (fun h => (upd_ne (by decide)).trans ((upd_ne c0.symm).trans ((upd_ne (by decide)).trans (insF_own h)))) (fun _ _ _ => trivial) (fun h ho hh => by
    refine ⟨?_, fun i hi h1 => ?_⟩
    ·rw [upd_ne c1, insF_oth c0]
     rcases hh C.cnt (Nat.le_refl _) c0 with h | h
     ·exact ⟨0, h.trans (hP _), by decide, by decide⟩
     ·exact ⟨_, h.trans (if_neg c1), by decide, by decide⟩
    ·show joinI (f i) (upd _ 1 _ i) = if i = 1 then _ else _
     rw [hP]
     if h2 : i = 1 then rw [h2, upd_same, if_pos rfl, join_top t1.1]
     else rw [upd_ne h2, show i = C.cnt by omega, upd_same, if_neg c1]; rfl)
  refine ⟨_, D0, D1, R, upd_same _ _ _, fun i hi => ?_, rfl⟩
  unfold resE
  if h1 : i = 0 then rw [h1, upd_same, if_pos rfl]
  else
   rw [upd_ne h1, upd_ne h1, if_neg h1, if_neg c1]
   if h2 : i = 1 then rw [if_pos h2, if_pos h2] else rw [if_neg h2, if_neg h2, if_pos (by omega)]
 ·exact congrArg some (show decide (C.top 1 ≤ 4) = markB C by unfold markB; rw [if_pos (show C.cnt ≤ 2 by omega), hc])
theorem run3 (hq : ∀ d, d < C.cnt → LoopQ C d) (hc : 3 ≤ C.cnt) : Bd C (n + 98) true 0 (some (markB C)) xs H e (resE C) := by
 obtain ⟨ys, h1, hs⟩ := h.inv (by omega)
 obtain ⟨zs, h2, hs1⟩ := h1.inv (by omega)
 have t1 := Z.htop 1
 have hc7 := Z.hc.2
 have dp := deep Z (l := 1 + 1) (by decide) hq h2
 rw [show F2 C (0 + 1 + 1) = R2 2 C.cnt (C.top 2) from funext fun f => if_neg (by omega), show sr2 C (0 + 1 + 1) = fun _ => false from funext fun f => if_neg (by omega)] at dp
 have o1 := outer_step (12 * (C.cnt - 2)) Z (l := 0 + 1) (by decide) (d := 1) (by omega) hs1 (fun k => by have := dp k; rwa [Nat.add_comm 10] at this) (P0 := fun _ => True) (G := fun f i => if i = 0 then f 0 else if i = 1 then (C.top 1 + 1, C.top 1 + 1) else joinI (f i) (cD C i)) (sr' := fun _ => false) (fun f _ h0 => by
  obtain ⟨D0, D1, R⟩ := restB Z (d := 1) (by omega) (f := f) (s := fun i => if i = 0 then f 0 else joinI (f i) (cD C i)) (F := R2 2 C.cnt (C.top 2)) (P := fun _ => True) (fun _ => none) h0 (fun h => (R2_lt _ (by decide)).trans (insF_own h)) (fun _ _ _ => trivial) (fun h ho hh => ⟨trivial, fun i hi h1 => by
    show joinI (f i) (R2 2 C.cnt (C.top 2) _ i) = if i = 0 then _ else _
    if h2 : i = 0 then
     have : h 0 = f 0 := (hh 0 (Nat.zero_le _) (by decide)).elim id id
     rw [h2, R2_lt _ (by decide), insF_oth (by decide), this, join_self, if_pos rfl]
    else rw [R2_at _ (by omega) hi, if_neg h2]⟩)
  refine ⟨_, D0, D1, R, upd_same _ _ _, fun i hi => ?_, rfl⟩
  if h1 : i = 1 then rw [h1, upd_same]; rfl
  else
   rw [upd_ne h1, upd_ne h1]
   if h2 : i = 0 then rw [if_pos h2, if_pos h2] else rw [if_neg h2, if_neg h2, if_neg h1])
 have o2 : ∀ k, BodyC C (k + (12 * (C.cnt - 2) + 14 + 10)) (0 + 1) _ _ _ ys := o1
 have r := outer_step (12 * (C.cnt - 2) + 14) Z (l := 0) (by decide) (d := 0) (by omega) hs o2 (P0 := fun f => ∀ i, f i = (0, 0)) (G := fun _ => resE C) (sr' := fun _ => false) (fun f hP h0 => by
  obtain ⟨D0, D1, R⟩ := restB Z (d := 0) (Nat.zero_le _) (f := f) (s := fun i => if i = 1 then (0, C.top 1 + 1) else if i = 2 then (0, 2147483647) else fullI) (F := fun f i => if i = 0 then (upd f 1 (0, 0)) 0 else if i = 1 then (C.top 1 + 1, C.top 1 + 1) else joinI ((upd f 1 (0, 0)) i) (cD C i)) (P := fun f => True) (fun _ => none) h0 (fun h => (if_pos rfl).trans ((upd_ne (by decide)).trans (insF_own h))) (fun _ _ _ => trivial) (fun h ho hh => ⟨trivial, fun i hi h1 => by
    have t2 := Z.htop 2
    have hi := hh i hi h1
    dsimp only [Dk0] at hi
    show joinI (f i) (if i = 0 then _ else _) = if i = 1 then _ else _
    rw [hP, if_neg h1]
    if h2 : i = 1 then rw [if_pos h2, if_pos h2, join_top t1.1]
    else
     rw [hP, if_neg h2] at hi
     rw [if_neg h2, if_neg h2, upd_ne h2, insF_oth h1]
     unfold cD
     if h3 : i = 2 then
      rw [if_pos h3] at hi ⊢
      rw [if_pos h3]
      have j0 : joinI (0, 0) (C.top 2 + 1, 2147483647) = (0, 2147483647) := Prod.ext (Int.min_eq_left (show 0 ≤ C.top 2 + 1 by omega)) rfl
      have jM : joinI (0, 2147483647) (C.top 2 + 1, 2147483647) = (0, 2147483647) := Prod.ext (Int.min_eq_left (show 0 ≤ C.top 2 + 1 by omega)) rfl
      rcases hi with h | h
      ·rw [h, j0]; rfl
      ·rw [h, jM]; rfl
     else
      rw [if_neg h3] at hi ⊢
      rw [if_neg h3]
      rcases hi with h | h <;> rw [h] <;> rfl⟩)
  refine ⟨_, D0, D1, R, upd_same _ _ _, fun i hi => ?_, rfl⟩
  unfold resE
  if h1 : i = 0 then rw [h1, upd_same, if_pos rfl]
  else rw [upd_ne h1, upd_ne h1, if_neg h1, if_neg (show ¬ C.cnt = 1 by omega)]) (n + 98 - (12 * (C.cnt - 2) + 38)) true H e _ (upd00 _) i he
 rw [show n + 98 - (12 * (C.cnt - 2) + 38) + (12 * (C.cnt - 2) + 14 + 24) = n + 98 by omega] at r
 refine r.congr ?_ fun _ _ => rfl
 exact congrArg some (show false = markB C by unfold markB; rw [if_neg (show ¬ C.cnt ≤ 2 by omega)])
theorem nest_run (hq : ∀ d, d < C.cnt → LoopQ C d) : Bd C (n + 98) true 0 (some (markB C)) xs H e (resE C) := by
 have := Z.hc
 if h1 : C.cnt = 1 then exact run1 Z h i he h1
 else if h2 : C.cnt = 2 then exact run2 Z h i he h2
 else exact run3 Z h i he hq (by omega)
end
theorem sub_leaf {C : Ctx} {a : Nat} {op : Nm} {val : V} (h : Nd C.B a op val []) (ho : wkOp op = false) : SubL C [a] [(a, none)] := SubL.node h (SubL.nil C) (.oth op val [] h ho)
theorem sub_var {C : Ctx} {a : Nat} {k : Int} (h : IsVar C.B a k) : SubL C [a] [(a, none)] := by
 refine hide fun Ψ kΨ => ?_
 obtain ⟨pl, ty, ty', kl, v, s, nm, h1, h2, h3⟩ := h
 refine kΨ ?_
 exact sub_leaf ⟨pl, ty, kl, s, h1, h3⟩ rfl
theorem sub_const {C : Ctx} {a : Nat} {k : Int} (h : IsConst C.B a k) : SubL C [a] [(a, none)] := by
 refine hide fun Ψ kΨ => ?_
 obtain ⟨pl, t, kl, s, h1, h2, h3⟩ := h
 refine kΨ ?_
 exact sub_leaf ⟨pl, _, kl, s, h2, h3⟩ rfl
theorem sub_node {C : Ctx} {a : Nat} {op : Nm} {val : V} {ks : List Nat} {qs : List (Nat × Option Nat)} (h : Nd C.B a op val ks) (ho : wkOp op = false) (k : SubL C ks qs) : SubL C [a] ((a, none) :: qs) := SubL.node h k (.oth op val ks h ho)
theorem sub_add {C : Ctx} {a k : Nat} (h : IsAdd C.B a k) : ∃ x y, SubL C [a] [(a, none), (x, none), (y, none)] := by
 refine hide fun Ψ kΨ => ?_
 obtain ⟨pl, ty, kl, val, s, x, y, h1, h2, h3, h4⟩ := h
 refine kΨ ?_
 exact ⟨x, y, sub_node (ks := [x, y]) ⟨pl, ty, kl, s, h1, h2⟩ rfl ((sub_var h3.var).app (sub_const h4))⟩
theorem sub_test {C : Ctx} {a : Nat} {k c : Int} (h : IsTest C.B a k c) : ∃ x y, SubL C [a] [(a, none), (x, none), (y, none)] := by
 refine hide fun Ψ kΨ => ?_
 obtain ⟨pl, b, kl, val, s, x, y, h1, h2, h3, h4, h5⟩ := h
 refine kΨ ?_
 exact ⟨x, y, sub_node (ks := [x, y]) ⟨pl, _, kl, s, h1, h3⟩ rfl ((sub_var h4.var).app (sub_const h5))⟩
theorem sub_el {C : Ctx} (h : IsEl C.B C.el C.cnt) : ∃ x y, SubL C [C.el] [(C.el, none), (x, none), (y, none)] := by
 obtain ⟨pl, t, kl, val, s, ka, c, pl', row, kl', v, s', ty', nm, h1, h2, h3, h4, h5, h6, h7, h8⟩ := h
 exact ⟨ka, c, sub_node (ks := [ka, c]) ⟨pl, _, kl, s, h1, h3⟩ rfl ((sub_leaf ⟨pl', _, kl', s', h5, h8⟩ rfl).app (sub_var h4.var))⟩
theorem cov_none {C : Ctx} {d a : Nat} {qs : List (Nat × Option Nat)} (h : CovQ C d qs) : CovQ C d ((a, none) :: qs) := fun i => by
 rw [← h i]
 constructor
 ·rintro ⟨q, hq, e⟩
  rcases List.mem_cons.mp hq with rfl | hq
  ·cases e
  ·exact ⟨q, hq, e⟩
 ·exact fun ⟨q, hq, e⟩ => ⟨q, .tail _ hq, e⟩
theorem cov_some {C : Ctx} {d a : Nat} {qs : List (Nat × Option Nat)} (hd : d ≤ C.cnt) (h : CovQ C (d + 1) qs ∨ CovQ C d qs) : CovQ C d ((a, some d) :: qs) := fun i => by
 have hh : (∃ q ∈ qs, q.2 = some i) → d ≤ i ∧ i ≤ C.cnt := fun k => by
  rcases h with h | h
  ·have := (h i).mp k; omega
  ·exact (h i).mp k
 constructor
 ·rintro ⟨q, hq, e⟩
  rcases List.mem_cons.mp hq with rfl | hq
  ·cases e; exact ⟨Nat.le_refl _, hd⟩
  ·exact hh ⟨q, hq, e⟩
 ·intro hi
  if e : i = d then exact ⟨_, .head _, congrArg some e.symm⟩
  else
   have : ∃ q ∈ qs, q.2 = some i := by
    rcases h with h | h
    ·exact (h i).mpr (by omega)
    ·exact (h i).mpr hi
   obtain ⟨q, hq, e⟩ := this
   exact ⟨q, .tail _ hq, e⟩
theorem cov_end {C : Ctx} {d a b : Nat} {qs qs2 : List (Nat × Option Nat)} (hd : d ≤ C.cnt) (h : CovQ C (d + 1) qs) (h2 : ∀ q ∈ qs2, q.2 = none) : CovQ C d (qs ++ (a, some d) :: qs2) := fun i => by
 constructor
 ·rintro ⟨q, hq, e⟩
  rcases List.mem_append.mp hq with hq | hq
  ·have := (h i).mp ⟨q, hq, e⟩; omega
  ·rcases List.mem_cons.mp hq with rfl | hq
   ·cases e; exact ⟨Nat.le_refl _, hd⟩
   ·rw [h2 q hq] at e; cases e
 ·intro hi
  if e : i = d then exact ⟨_, List.mem_append_right _ (.head _), congrArg some e.symm⟩
  else
   refine hide fun Ψ kΨ => ?_
   obtain ⟨q, hq, e⟩ := (h i).mpr (by omega)
   refine kΨ ?_
   exact ⟨q, List.mem_append_left _ hq, e⟩
inductive NQ (C : Ctx) (d : Nat) (xs : List Nat) : Prop
 | mk (qs : List (Nat × Option Nat)) (s : SubL C xs qs) (c : CovQ C d qs) (l : qs.length ≤ 20 + 20 * (C.cnt - d)) (q : d < C.cnt → LoopQ C d) : NQ C d xs
theorem sub_inner {C : Ctx} (hel : IsEl C.B C.el C.cnt) {xs : List Nat} (h : InnerS C xs) : NQ C C.cnt xs := by
 obtain ⟨h1, h2, h3, h4, h5⟩ := h
 obtain ⟨p, q, s1⟩ := sub_el hel
 obtain ⟨p', q', s2⟩ := sub_add h5
 have t1 := SubL.node h1 (s1.app (sub_const h2)) (o := none) (.el _ _ h1)
 have t2 := SubL.node h3 ((sub_var h4.var).app s2) (o := some C.cnt) (.var _ _ _ _ _ (Nat.le_refl _) h3 h4.var (.inl rfl))
 refine ⟨_, t1.app t2, ?_, Nat.le_trans (Nat.le_of_ble_eq_true rfl) (Nat.le_add_right 20 _), fun h => (Nat.lt_irrefl _ h).elim⟩
 have c0 : CovQ C (C.cnt + 1) [] := fun i => ⟨(fun ⟨_, h, _⟩ => nomatch h), (fun h => by omega)⟩
 refine cov_none (cov_none (cov_none (cov_none (cov_none (cov_end (b := 0) (qs := []) (Nat.le_refl C.cnt) c0 fun q hq => ?_)))))
 rcases List.mem_cons.mp hq with rfl | hq
 ·rfl
 ·rcases List.mem_cons.mp hq with rfl | hq
  ·rfl
  ·rcases List.mem_cons.mp hq with rfl | hq
   ·rfl
   ·cases List.mem_singleton.mp hq; rfl
theorem nest_sub {C : Ctx} (hel : IsEl C.B C.el C.cnt) (hc : 1 ≤ C.cnt ∧ C.cnt ≤ 7) {d : Nat} {xs : List Nat} (h : Nest C d xs) : NQ C d xs := by
 induction h with
 | base h => exact sub_inner hel h
 | @loop d ys xs hd hn hs ih =>
  obtain ⟨qs, h1, h2, h3, _⟩ := ih
  have hd' := Nat.le_of_lt hd
  cases hs with
  | for_ hf =>
   obtain ⟨c, z, tp, blk, b1, b2, b3, b4, b5⟩ := hf
   have t1 := SubL.node b1 ((sub_var b2.var).app ((sub_const b3).app ((sub_const b4).app (sub_node b5 rfl h1)))) (o := some d) (.var _ _ _ _ _ hd' b1 b2.var (.inr (.inl rfl)))
   have cv : CovQ C d ((C.ln d, some d) :: (c, none) :: (z, none) :: (tp, none) :: (blk, none) :: qs) := cov_some hd' (.inl (cov_none (cov_none (cov_none (cov_none h2)))))
   have hl : qs.length + 5 ≤ 20 + 20 * (C.cnt - d) := by omega
   exact ⟨_, t1, cv, hl, fun _ => ⟨hd, _, t1, cv, Nat.lt_of_le_of_lt hl (by omega)⟩⟩
  | whl hw w1 w2 w3 =>
   obtain ⟨tst, blk, stp, cs, k1, b1, b2, b3, b4, b5, b6⟩ := hw
   obtain ⟨p, q, s1⟩ := sub_test b2
   have t0 := SubL.node b4 ((sub_var b5.var).app (sub_const b6)) (o := some d) (.var _ _ _ _ _ hd' b4 b5.var (.inr (.inr ⟨rfl, rfl⟩)))
   have t1 := sub_node b1 rfl (s1.app (sub_node b3 rfl (h1.app t0)))
   have t2 := SubL.node w1 ((sub_var w2.var).app (sub_const w3)) (o := some d) (.var _ _ _ _ _ hd' w1 w2.var (.inl rfl))
   have cv : CovQ C d ((C.ln d, none) :: (tst, none) :: (p, none) :: (q, none) :: (blk, none) :: (qs ++ [(stp, some d), (cs, none), (k1, none)])) := cov_none (cov_none (cov_none (cov_none (cov_none (cov_end (b := 0) hd' h2 fun q hq => by
    rcases List.mem_cons.mp hq with rfl | hq
    ·rfl
    ·cases List.mem_singleton.mp hq; rfl)))))
   have hl : (qs ++ [(stp, some d), (cs, none), (k1, none)]).length + 5 + 3 ≤ 20 + 20 * (C.cnt - d) := by
    rw [List.length_append]
    show qs.length + 3 + 5 + 3 ≤ _
    omega
   exact ⟨_, t2.app t1, cov_some hd' (.inr (cov_none (cov_none cv))), hl, fun _ => ⟨hd, _, t1, cv, by
    show (qs ++ [(stp, some d), (cs, none), (k1, none)]).length + 5 < 300
    omega⟩⟩
structure Pv (B B' : MH) : Prop where
 nd : ∀ {a op val ks}, Nd B a op val ks → Nd B' a op val ks
 vr : ∀ {a k}, IsVarI B a k → IsVarI B' a k
 cn : ∀ {a k}, IsConst B a k → IsConst B' a k
 ts : ∀ {a k c}, IsTest B a k c → IsTest B' a k c
 ad : ∀ {a k}, IsAdd B a k → IsAdd B' a k
theorem Ext.pv {B B' : MH} (p : Ext B B') : Pv B B' := ⟨fun h => h.ext p, fun h => h.ext p, fun h => h.ext p, fun h => h.ext p, fun h => h.ext p⟩
section
variable {C C' : Ctx} (p : Pv C.B C'.B) {d : Nat} {ys xs : List Nat}
include p
theorem IsFor.pv (h2 : C'.ln d = C.ln d) (h3 : C'.top d = C.top d) (h : IsFor C d ys) : IsFor C' d ys := by
 refine hide fun Ψ kΨ => ?_
 obtain ⟨c, z, tp, blk, b1, b2, b3, b4, b5⟩ := h
 refine kΨ ?_
 exact ⟨c, z, tp, blk, h2 ▸ p.nd b1, p.vr b2, p.cn b3, h3 ▸ p.cn b4, p.nd b5⟩
theorem IsWhl.pv (h2 : C'.ln d = C.ln d) (h3 : C'.top d = C.top d) (h : IsWhl C d ys) : IsWhl C' d ys := by
 refine hide fun Ψ kΨ => ?_
 obtain ⟨tst, blk, stp, cs, k1, b1, b2, b3, b4, b5, b6⟩ := h
 refine kΨ ?_
 exact ⟨tst, blk, stp, cs, k1, h2 ▸ p.nd b1, h3 ▸ p.ts b2, p.nd b3, p.nd b4, p.vr b5, p.cn b6⟩
theorem Nest.pv (h1 : C'.el = C.el) (h4 : C'.cnt = C.cnt) (h2 : ∀ i, d ≤ i → C'.ln i = C.ln i ∧ C'.top i = C.top i) (h : Nest C d xs) : Nest C' d xs := by
 induction h with
 | base h =>
  obtain ⟨b1, b2, b3, b4, b5⟩ := h
  rw [← h4] at b4 b5 ⊢
  rw [← h1] at b1
  exact .base ⟨p.nd b1, p.cn b2, p.nd b3, p.vr b4, p.ad b5⟩
 | @loop d ys xs hd _ hs ih =>
  have h3 := h2 d (Nat.le_refl _)
  refine .loop (by rw [h4]; exact hd) (ih fun i hi => h2 i (Nat.le_of_succ_le hi)) ?_
  cases hs with
  | for_ h => rw [← h3.1]; exact .for_ (h.pv p h3.1 h3.2)
  | whl h a b c => rw [← h3.1]; exact .whl (h.pv p h3.1 h3.2) (p.nd a) (p.vr b) (p.cn c)
end
theorem Ext.trans {A B H : MH} (h : Ext A B) (k : Ext B H) : Ext A H := ⟨Nat.le_trans h.1 k.1, fun a o e => by
 refine hide fun Ψ kΨ => ?_
 obtain ⟨o1, e1, s1⟩ := h.2 a o e
 obtain ⟨o2, e2, s2⟩ := k.2 a o1 e1
 refine kΨ ?_
 exact ⟨o2, e2, s1.trans s2⟩⟩
theorem Ext.pre {H H' : MH} (p : H <+: H') : Ext H H' := ⟨p.length_le, fun _ o h => ⟨o, p_get p h, .refl _⟩⟩
theorem wl_empty {c : CF} {ρ : Loc} {H : MH} {x : Nm} {e : X} {b : S} {Q : Fl → Loc → MH → Prop} (hp : plainIt e = true) (h : wE c ρ e H fun w H1 => ∃ i, w = .obj i ∧ H1[i]? = some (.list []) ∧ Q .next ρ H1) : WL c (.forIn x e b) ρ H Q := ⟨fun ρ2 hρ => by
 refine hide fun Ψ kΨ => ?_
 obtain ⟨⟨w, H1⟩, e1, i, rfl, g, q⟩ := wE_s hρ e h
 refine kΨ ?_
 refine ⟨.next, ρ, ρ2, H1, ?_, hρ, q⟩
 rw [forIn_plain hp, e1]
 show o1 (itemsV H1 (.obj i)) _ = _
 rw [items_l g]
 exact if_pos (okV_of g g)⟩
theorem c_nodes_none (n : Nat) (H : MH) : cf (n + 2) (.g .k_nodes_of) [.none] H = some (.obj H.length, wHeap H [] []) := by
 have e1 := cf_len n (wH_2 H [] [])
 refine cl_eq (ρ := [(.k_node, .none)]) rfl rfl rfl ?_
 refine wl_whl (fun _ ρ H' => [(.k_node, .none), (.k_found, .obj H.length), (.k_waiting, .obj (wA H))] = ρ ∧ wHeap H [] [] = H') ?_ (j := 0) (Nat.le_of_ble_eq_true rfl) ⟨rfl, rfl⟩
 rintro j _ _ ⟨rfl, rfl⟩
 exact W2.s e1 ⟨(fun x => Bool.noConfusion (show false = true from x)), fun _ => ⟨rfl, rfl⟩⟩
theorem c_taken (n : Nat) {H : MH} {x lv : V} {out : List Nat} (e2 : cf (n + 2) (.g .k_nodes_of) [x] (H ++ [.list []]) = some (.obj (H ++ [O.list []]).length, wHeap (H ++ [.list []]) out [])) (hop : ∀ y ∈ out, ∃ op val ks, Nd H y op val ks ∧ op ≠ .k_call) : ∃ H', cf (n + 3) (.g .k_taken_slots) [x, lv] H = some (.obj H.length, H') ∧ H <+: H' ∧ H'[H.length]? = some (.list []) := by
 have p2 := wH_pre (H ++ [.list []]) out []
 have g2 := wH_1 (H ++ [.list []]) out []
 generalize wHeap (H ++ [.list []]) out [] = H2 at e2 p2 g2
 refine ⟨H2, cl_eq (ρ := [(.k_node, x), (.k_level, lv)]) rfl rfl rfl ?_, (pre_app _ _).trans p2, p_get p2 (app_new _ _)⟩
 refine wl_in rfl (W2.s e2 ⟨_, items_l g2, fun k ρ H' => [(.k_node, x), (.k_level, lv), (.k_found, .obj H.length)] = ρ ∧ H2 = H', ⟨rfl, rfl⟩, ?_, ?_, ?_⟩)
 ·rintro k _ _ ⟨rfl, rfl⟩
  exact okV_of g2 g2
 ·rintro k v hv _ _ ⟨rfl, rfl⟩
  rw [List.getElem?_map] at hv
  refine hide fun Ψ kΨ => ?_
  obtain ⟨y, hy, rfl⟩ := Option.map_eq_some_iff.mp hv
  obtain ⟨op, val, ks, ⟨pl, ty, kl, s, n1, n2⟩, hne⟩ := hop y (List.mem_of_getElem? hy)
  refine kΨ ?_
  refine WO.s (attr_s (p_get p2 (app_get n1)) rfl) (wIf_df hne ⟨_, ?_, rfl, rfl⟩)
  ((repeat (apply Sub.cons; (· rfl))); exact Sub.nil)
 ·rintro _ _ ⟨rfl, rfl⟩
  exact ⟨rfl, rfl⟩
inductive PrAt (H : MH) (p body : Nat) (objs : List Nat) : Prop
 | mk (fs : List (Nm × V)) (pr pa lo : Nat) (h1 : H[p]? = some (.inst .k_ProcTree fs)) (h2 : get .k_body fs = some (.obj body)) (h3 : get .k_level fs = some (.int 1)) (h4 : get .k_result fs = some .none) (h5 : get .k_procs fs = some (.obj pr)) (h6 : get .k_params fs = some (.obj pa)) (h7 : get .k_locals fs = some (.obj lo)) (h8 : H[pr]? = some (.list [])) (h9 : H[pa]? = some (.list [])) (h10 : H[lo]? = some (.list (objs.map V.obj))) : PrAt H p body objs
noncomputable def LocAt (H : MH) (cnt : Nat) (objs : List Nat) : Prop := objs.length = cnt + 2 ∧ ∀ (k v : Nat), objs[k]? = some v → ∃ nm t, H[v]? = some (objO nm (.obj t) k) ∧ (if k ≤ cnt then IsInt H t else IsTy H t .k_array 5)
noncomputable def zeroF : Nat → IV := fun _ => (0, 0)
theorem add_l {H : MH} {a b : Nat} {xs ys : List V} (h1 : H[a]? = some (.list xs)) (h2 : H[b]? = some (.list ys)) (hl : xs.length + ys.length ≤ 100000) : binV .add (.obj a) (.obj b) H = some (.obj H.length, H ++ [.list (xs ++ ys)]) := by
 show o1 H[a]? _ = _
 rw [h1]
 show o1 H[b]? _ = _
 rw [h2]
 exact if_pos hl
inductive Fol (H : MH) (cnt : Nat) (n : Nat) (p : Nat) : Prop
 | mk (sl : Nat) (B : MH) (e : cf n (.g .k_followed_slots) [.obj p] H = some (.obj sl, B)) (hs : B[sl]? = some (.idict (dctL (cnt + 1) zeroF))) (hl : H.length ≤ B.length) (hk : ∀ (a : Nat) (o : O), H[a]? = some o → B[a]? = some o) : Fol H cnt n p
theorem zero_step {k cnt : Nat} (h : k ≤ cnt) : put (k : Int) (iv (0, 0)) (dctL (min k (cnt + 1)) zeroF) = dctL (min (k + 1) (cnt + 1)) zeroF := by
 rw [Nat.min_eq_left (Nat.le_succ_of_le h), Nat.min_eq_left (Nat.succ_le_succ h)]
 exact put_dctL_new k zeroF
theorem c_followed (n : Nat) {H : MH} {p body cnt : Nat} {objs out : List Nat} (hp : PrAt H p body objs) (hlo : LocAt H cnt objs) (hcnt : cnt ≤ 7) (hd : Dfs H [body] out) (hl : out.length < 400) (hop : ∀ x ∈ out, ∃ op val ks, Nd H x op val ks ∧ op ≠ .k_call) : Fol H cnt (n + 4) p := by
 obtain ⟨fs, pr, pa, lo, k1, k2, k3, k4, k5, k6, k7, k8, k9, k10⟩ := hp
 obtain ⟨H1, e1, p1, g1⟩ := c_taken n (lv := .int 1) (c_nodes_of n (hd.ext (.pre (pre_app _ _))) hl) hop
 obtain ⟨H2, e2, p2, g2⟩ := c_taken n (H := H1) (lv := .int 1) (c_nodes_none n _) fun _ h => nomatch h
 have e3 := add_l (p_get p2 g1) g2 (Nat.zero_le _)
 have p3 := p1.trans (p2.trans (pre_app H2 [.list []]))
 have g3 := app_new H2 (.list [])
 generalize H2 ++ [.list []] = H3 at e3 p3 g3
 have p4 := p3.trans (pre_app H3 [.idict []])
 have g4 := app_new H3 (.idict [])
 have go4 := app_get (X := [.idict []]) g3
 have hlo1 := hlo.1
 have hlt3 : H2.length < H3.length := lt_of_get g3
 have hH3 : H.length ≤ H3.length := p3.length_le
 have k1' := p_get p1 k1
 have k13 := p_get p3 k1
 have tail : ∀ H4, H <+: H4 → H4[H3.length]? = some (.idict []) → H4[H2.length]? = some (.list []) → ∃ D, wS (cf (n + 3)) (drp 3 F_k_followed_slots.1.body) [(.k_proc, .obj p), (.k_out, .obj H2.length), (.k_slots, .obj H3.length)] H4 (endQ fun v H' => v = .obj H3.length ∧ H' = D) ∧ D[H3.length]? = some (.idict (dctL (cnt + 1) zeroF)) ∧ H.length ≤ D.length ∧ ∀ (a : Nat) (o : O), H[a]? = some o → D[a]? = some o := fun H4 p4 g4 g3 => by
  have e5 := cf_list (n + 2) (p_get p4 k9)
  have p5 := pre_app H4 [.list []]
  have g5 := app_new H4 (.list [])
  generalize H4 ++ [.list []] = H5 at e5 p5 g5
  have e6 := cf_list (n + 2) (p_get p5 (p_get p4 k10))
  have p6 := pre_app H5 [.list (objs.map V.obj)]
  have g6 := app_new H5 (.list (objs.map V.obj))
  generalize H5 ++ [.list (objs.map V.obj)] = H6 at e6 p6 g6
  have e7 := add_l (p_get p6 g5) g6 (by rw [List.length_map, List.length_nil, Nat.zero_add]; omega)
  have p7 := p5.trans (p6.trans (pre_app H6 [.list (objs.map V.obj)]))
  have g7 := app_new H6 (.list (objs.map V.obj))
  have hlt : H3.length < H6.length := lt_of_get (p_get (p5.trans p6) g4)
  generalize hH7 : H6 ++ [.list (objs.map V.obj)] = H7 at p7 g7
  have e7 : binV .add (.obj H4.length) (.obj H5.length) H6 = some (.obj H6.length, H7) := hH7 ▸ e7
  have f7 := p_get p7 g4
  have p07 := p4.trans p7
  have hset : ∀ (D : List (Int × V)) (a : Nat) (o : O), a ≠ H3.length → H7[a]? = some o → (H7.set H3.length (.idict D))[a]? = some o := fun D a o hne e => by
   rw [get_set f7 e, if_neg (fun h => hne h.symm)]
  have hold : ∀ (D : List (Int × V)) (a : Nat) (o : O), H[a]? = some o → (H7.set H3.length (.idict D))[a]? = some o := fun D a o e => hset D a o (Nat.ne_of_lt (Nat.lt_of_lt_of_le (lt_of_get e) hH3)) (p_get p07 e)
  refine ⟨H7.set H3.length (.idict (dctL (cnt + 1) zeroF)), ?_, set_same f7, by rw [List.length_set]; exact p07.length_le, hold _⟩
  refine wl_in rfl (WO.s (attr_s (p_get p4 k1) k6) (W2.s e5 (WO.s (attr_s (p_get p5 (p_get p4 k1)) k7) (W2.s e6 (W2.s e7 ⟨_, items_l g7, fun k ρ H' => [(.k_proc, .obj p), (.k_out, .obj H2.length), (.k_slots, .obj H3.length)] = ρ ∧ H7.set H3.length (.idict (dctL (min k (cnt + 1)) zeroF)) = H', ⟨rfl, ?_⟩, ?_, ?_, ?_⟩)))))
  ·rw [Nat.zero_min]; exact set_back f7
  ·rintro k _ _ ⟨rfl, rfl⟩
   exact okV_of g7 (hset _ _ _ (Nat.ne_of_gt hlt) g7)
  ·rintro k v hv _ _ ⟨rfl, rfl⟩
   rw [List.getElem?_map] at hv
   obtain ⟨x, hx, rfl⟩ := Option.map_eq_some_iff.mp hv
   have hk : k < objs.length := (List.getElem?_eq_some_iff.mp hx).1
   obtain ⟨nm, t, v1, v2⟩ := hlo.2 k x hx
   have wd : (H7.set H3.length (.idict (dctL (min k (cnt + 1)) zeroF)))[H3.length]? = some (.idict (dctL (min k (cnt + 1)) zeroF)) := set_same f7
   have wo := hset (dctL (min k (cnt + 1)) zeroF) _ _ (Nat.ne_of_lt hlt3) (p_get p7 g3)
   have w1 := hold (dctL (min k (cnt + 1)) zeroF) _ _ v1
   if hc : k ≤ cnt then
    rw [if_pos hc] at v2
    obtain ⟨len, ⟨num, size, base, fl, pl, hl, v2⟩⟩ := v2
    have w2 := hold (dctL (min k (cnt + 1)) zeroF) _ _ v2
    have hss := (set_set' H7 H3.length (.idict (dctL (min k (cnt + 1)) zeroF)) (.idict (put (k : Int) (iv (0, 0)) (dctL (min k (cnt + 1)) zeroF)))).trans (congrArg (fun D => H7.set H3.length (.idict D)) (zero_step hc))
    have hlen : (dctL (min k (cnt + 1)) zeroF).length < 100000 := by rw [len_dctL]; omega
    have es := c_single (n + 2) (H7.set H3.length (.idict (dctL (min k (cnt + 1)) zeroF))) 0
    generalize dctL (min k (cnt + 1)) zeroF = D at wd wo w1 w2 hss hlen es
    generalize H7.set H3.length (.idict D) = G at wd wo w1 w2 hss es
    refine w_seg 1 [fv (attr_s (n := .k_kind) w1 rfl), fv (attr_s (n := .k_type) w1 rfl), fv (attr_s (n := .k_form) w2 rfl), fv (attr_s (n := .k_slot) w1 rfl), ft (notin_l (j := k) (ys := []) wo), fv (attr_s (n := .k_isparam) w1 rfl), fc es, fv (attr_s (n := .k_slot) w1 rfl), fh (set_sub (k := k) (w := iv (0, 0)) wd hlen)] (y := (.next, [(.k_proc, .obj p), (.k_out, .obj H2.length), (.k_slots, .obj H3.length), (.k_obj, .obj x)], G.set H3.length (.idict (put (k : Int) (iv (0, 0)) D)))) (by kernel_rfl) ⟨_, ?_, rfl, hss.symm⟩
    ((repeat (apply Sub.cons; (· rfl))); exact Sub.nil)
   else
    rw [if_neg hc] at v2
    obtain ⟨num, size, base, fl, pl, hl, v2⟩ := v2
    have w2 := hold (dctL (min k (cnt + 1)) zeroF) _ _ v2
    have e : min k (cnt + 1) = min (k + 1) (cnt + 1) := by omega
    refine w_seg 1 [fv (attr_s (n := .k_kind) w1 rfl), fv (attr_s (n := .k_type) w1 rfl), fv (attr_s (n := .k_form) w2 rfl)] (y := (.next, [(.k_proc, .obj p), (.k_out, .obj H2.length), (.k_slots, .obj H3.length), (.k_obj, .obj x)], H7.set H3.length (.idict (dctL (min k (cnt + 1)) zeroF)))) (by kernel_rfl) ⟨_, ?_, rfl, by rw [e]⟩
    ((repeat (apply Sub.cons; (· rfl))); exact Sub.nil)
  ·rintro _ _ ⟨rfl, rfl⟩
   refine ⟨rfl, ?_⟩
   rw [List.length_map, hlo1, Nat.min_eq_right (Nat.le_succ _)]
 obtain ⟨D, hD, d1, d2, d3⟩ := tail _ p4 g4 go4
 refine ⟨H3.length, D, cl_eq (ρ := [(.k_proc, .obj p)]) rfl rfl rfl ?_, d1, d2, d3⟩
 refine w_seg 1 [fv (attr_s k1 k2), fv (attr_s k1 k3), fc e1, fv (attr_s k1' k4), fv (attr_s k1' k3), fc e2, fc e3] (y := (.next, [(.k_proc, .obj p), (.k_out, .obj H2.length)], H3)) (by kernel_rfl) ?_
 exact wl_empty rfl (WO.s (attr_s k13 k5) ⟨pr, rfl, p_get p3 k8, hD⟩)
theorem Wk.nocall {C : Ctx} {a : Nat} {o : Option Nat} (h : Wk C a o) : ∃ op val ks, Nd C.B a op val ks ∧ op ≠ .k_call := by
 cases h with
 | oth op val ks hn ho => exact ⟨op, val, ks, hn, by rintro rfl; cases ho⟩
 | el val ks hn => exact ⟨_, val, _, hn, by decide⟩
 | var k op val x ks hk hn hx ho => exact ⟨op, val, _, hn, by rcases ho with rfl | rfl | ⟨rfl, _⟩ <;> decide⟩
structure Tree (B : MH) (cnt el : Nat) (ln : Nat → Nat) (top : Nat → Int) (p body : Nat) (objs xs : List Nat) : Prop where
 hc : 1 ≤ cnt ∧ cnt ≤ 7
 hel : IsEl B el cnt
 htop : ∀ d, 0 ≤ top d ∧ top d ≤ 6
 hlnn : ∀ d, d < cnt → ∃ op val ks, Nd B (ln d) op val ks
 hln : ∀ d d', d < cnt → d' < cnt → ln d = ln d' → d = d'
 hp : PrAt B p body objs
 hlo : LocAt B cnt objs
 hb : Nd B body .k_block .none xs
 hn : Nest ⟨B, 0, 0, 0, el, cnt, zeroF, ln, top⟩ 0 xs
theorem nest_loops {C : Ctx} (hel : IsEl C.B C.el C.cnt) (hc : 1 ≤ C.cnt ∧ C.cnt ≤ 7) {d : Nat} {xs : List Nat} (h : Nest C d xs) : ∀ d', d ≤ d' → d' < C.cnt → LoopQ C d' := by
 induction h with
 | base _ => exact fun d' h1 h2 => (Nat.not_lt.mpr h1 h2).elim
 | @loop d ys xs hd hn hs ih =>
  intro d' h1 h2
  if he : d = d' then
   refine hide fun Ψ kΨ => ?_
   obtain ⟨_, _, _, _, h⟩ := nest_sub hel hc (.loop hd hn hs)
   refine kΨ ?_
   exact he ▸ h hd
  else exact ih d' (Nat.lt_of_le_of_ne h1 he) h2
inductive An (H : MH) (cnt el n p : Nat) (E : Nat → IV) (s : Bool) : Prop
 | mk (e : Nat) (H' : MH) (c : cf n (.g .k_analyse) [.obj p] H = some (.obj e, H')) (he : H'[e]? = some (.idict (dctL (cnt + 1) E))) (x : Ext H H') (su : SureAt el H' s) : An H cnt el n p E s
theorem c_analyse (n : Nat) {H : MH} {cnt el p body : Nat} {ln : Nat → Nat} {top : Nat → Int} {objs xs : List Nat} (T : Tree H cnt el ln top p body objs xs) :
  An H cnt el (n + 100) p (resE ⟨H, 0, 0, 0, el, cnt, zeroF, ln, top⟩) (markB ⟨H, 0, 0, 0, el, cnt, zeroF, ln, top⟩) := by
 obtain ⟨qs, q1, q2, q3, q4⟩ := nest_sub (C := ⟨H, 0, 0, 0, el, cnt, zeroF, ln, top⟩) T.hel T.hc T.hn
 have q5 := sub_node (C := ⟨H, 0, 0, 0, el, cnt, zeroF, ln, top⟩) T.hb rfl q1
 have q3 : qs.length ≤ 20 + 20 * (cnt - 0) := q3
 have hcl := T.hc
 obtain ⟨sl, B, e1, b1, b2, b3⟩ := c_followed (n + 95) T.hp T.hlo T.hc.2 q5.dfs (by rw [List.length_map, List.length_cons]; omega) (fun x hx => by
  obtain ⟨q, hq, rfl⟩ := List.mem_map.mp hx
  exact (q5.2 q hq).nocall)
 have xB : Ext H B := ⟨b2, fun a o e => ⟨o, b3 a o e, .refl _⟩⟩
 have eR := n_Ranges (n + 98) B sl
 have pR := pre_app B [stO sl (B.length + 1) true 0, .list []]
 have gR1 : (B ++ [stO sl (B.length + 1) true 0, .list []])[B.length]? = some (stO sl (B.length + 1) true 0) := ap_get0 _ _
 have gR2 : (B ++ [stO sl (B.length + 1) true 0, .list []])[B.length + 1]? = some (.list []) := ap_get _ _ 1
 generalize B ++ [stO sl (B.length + 1) true 0, .list []] = HR at eR pR gR1 gR2
 have Z : Su ⟨B, B.length, sl, B.length + 1, el, cnt, zeroF, ln, top⟩ := ⟨Nat.le_refl _, Nat.le_succ _, b1, T.hc, T.hel.ext xB, T.htop, fun d hd => by
  obtain ⟨op, val, ks, h⟩ := T.hlnn d hd
  exact ⟨op, val, ks, h.ext xB⟩, T.hln⟩
 have hN := Nest.pv (C := ⟨H, 0, 0, 0, el, cnt, zeroF, ln, top⟩) (C' := ⟨B, B.length, sl, B.length + 1, el, cnt, zeroF, ln, top⟩) xB.pv rfl rfl (fun _ _ => ⟨rfl, rfl⟩) T.hn
 have i0 : Inv ⟨B, B.length, sl, B.length + 1, el, cnt, zeroF, ln, top⟩ true 0 HR := ⟨.pre pR, gR1, [], gR2, List.nodup_nil, fun p hp => nomatch hp⟩
 obtain ⟨H2, e2, a2, g2, h2⟩ := nest_run Z hN (n := n) i0 (p_get pR b1) fun d hd => nest_loops Z.hel Z.hc hN d (Nat.zero_le _) hd
 have a3 := c_block i0 (T.hb.ext xB) a2
 obtain ⟨fs, pr, pa, lo, k1, k2, k3, k4, k5, k6, k7, k8, k9, k10⟩ := T.hp
 have k1B := b3 _ _ k1
 refine ⟨e2, H2, cl_eq (ρ := [(.k_proc, .obj p)]) rfl rfl rfl ?_, h2, xB.trans g2.inv.ext, g2.su⟩
 refine wl_empty rfl (WO.s (attr_s k1 k5) ⟨pr, rfl, k8, ?_⟩)
 exact w_ret [fc e1, fv (attr_s k1B k3), fc eR, fv (attr_s (p_get pR k1B) k2), fc a3, fv (attr_s (g2.inv.ext.get k1B rfl) k4)] (by kernel_rfl) rfl ⟨rfl, rfl⟩
theorem good_objs (b : Bool) (ks : List Nat) : good b (.list (ks.map V.obj)) = true := by
 match ks with
 | [] => rfl
 | [x] => cases x <;> rfl
 | [x, _] => cases x <;> rfl
 | x :: _ :: _ :: _ => cases x <;> rfl
section
variable {b : Bool} {H H' : MH} (p : Kp b H H')
include p
theorem Kp.nd {a : Nat} {op : Nm} {val : V} {ks : List Nat} (h : Nd H a op val ks) : Nd H' a op val ks := by
 refine hide fun Ψ kΨ => ?_
 obtain ⟨pl, ty, kl, s, h1, h2⟩ := h
 refine kΨ ?_
 exact ⟨pl, ty, kl, s, p.gt _ _ h1 rfl, p.gt _ _ h2 (good_objs _ _)⟩
theorem Kp.vr {a : Nat} {k : Int} (h : IsVarI H a k) : IsVarI H' a k := by
 refine hide fun Ψ kΨ => ?_
 obtain ⟨pl, t, ty', kl, v, s, nm, h1, h2, h3, h4⟩ := h
 refine kΨ ?_
 exact ⟨pl, t, ty', kl, v, s, nm, p.gt _ _ h1 rfl, h2.kp p, p.gt _ _ h3 rfl, p.gt _ _ h4 rfl⟩
theorem Kp.ts {a : Nat} {k c : Int} (h : IsTest H a k c) : IsTest H' a k c := by
 refine hide fun Ψ kΨ => ?_
 obtain ⟨pl, b, kl, val, s, x, y, h1, h2, h3, h4, h5⟩ := h
 refine kΨ ?_
 exact ⟨pl, b, kl, val, s, x, y, p.gt _ _ h1 rfl, h2.kp p, p.gt _ _ h3 (good_pair _ _ _), p.vr h4, h5.kp p⟩
theorem Kp.ad {a k : Nat} (h : IsAdd H a k) : IsAdd H' a k := by
 refine hide fun Ψ kΨ => ?_
 obtain ⟨pl, ty, kl, val, s, x, y, h1, h2, h3, h4⟩ := h
 refine kΨ ?_
 exact ⟨pl, ty, kl, val, s, x, y, p.gt _ _ h1 rfl, p.gt _ _ h2 (good_pair _ _ _), p.vr h3, h4.kp p⟩
theorem Kp.el {el cnt : Nat} (h : IsEl H el cnt) : IsEl H' el cnt := by
 refine hide fun Ψ kΨ => ?_
 obtain ⟨pl, t, kl, val, s, ka, c, pl', row, kl', v, s', ty', nm, h1, h2, h3, h4, h5, h6, h7, h8⟩ := h
 refine kΨ ?_
 exact ⟨pl, t, kl, val, s, ka, c, pl', row, kl', v, s', ty', nm, p.gt _ _ h1 rfl, h2.kp p, p.gt _ _ h3 (good_pair _ _ _), p.vr h4, p.gt _ _ h5 rfl, h6.kp p, p.gt _ _ h7 rfl, p.gt _ _ h8 rfl⟩
theorem Kp.pv : Pv H H' := ⟨p.nd, p.vr, fun h => h.kp p, p.ts, p.ad⟩
end
noncomputable def nz (la : Nat) (H : MH) : MH := H.set la (.list [.none])
theorem nz_len (la : Nat) (H : MH) : (nz la H).length = H.length := List.length_set ..
theorem nz_app {la : Nat} {H : MH} (h : la < H.length) (X : MH) : nz la (H ++ X) = nz la H ++ X := List.set_append_left _ _ h
theorem nz_set (la : Nat) (H : MH) (o : O) : nz la (H.set la o) = nz la H := set_set' H la o _
theorem nz_get {la a : Nat} {H : MH} {o : O} (h : (nz la H)[a]? = some o) (g : o ≠ .list [.none]) : a ≠ la ∧ H[a]? = some o := by
 unfold nz at h
 rw [List.getElem?_set] at h
 if e : la = a then
  rw [if_pos e] at h
  split at h
  ·cases h; exact (g rfl).elim
  ·cases h
 else
  rw [if_neg e] at h; exact ⟨fun x => e x.symm, h⟩
theorem nz_of {la a : Nat} {H : MH} {o : O} (n : a ≠ la) (h : H[a]? = some o) : (nz la H)[a]? = some o := by
 unfold nz
 rw [List.getElem?_set, if_neg (fun e => n e.symm)]; exact h
theorem good_nn {b : Bool} {o : O} (h : good b o = true) : o ≠ .list [.none] := by rintro rfl; cases h
theorem Kp.un {b : Bool} {la : Nat} (H : MH) : Kp b (nz la H) H := ⟨Nat.le_of_eq (nz_len la H), fun a o h g => (nz_get h (good_nn g)).2, fun ⟨j, h⟩ => ⟨j, (nz_get h (fun e => by cases e)).2⟩⟩
theorem Kp.nz {b : Bool} {la : Nat} {H H' : MH} (p : Kp b H H') (hl : la ≠ 1) : Kp b (nz la H) (nz la H') := ⟨by rw [nz_len, nz_len]; exact p.ln, fun a o h g => by
 obtain ⟨n, h⟩ := nz_get h (good_nn g)
 exact nz_of n (p.gt _ _ h g), fun ⟨j, h⟩ => by
 obtain ⟨n, h⟩ := nz_get h (fun e => by cases e)
 obtain ⟨j', h'⟩ := p.bd ⟨j, h⟩
 exact ⟨j', nz_of (fun e => hl e.symm) h'⟩⟩
inductive CV (G : MH) (t a k : Nat) : Prop
 | mk (kl v : Nat) (nm : Nm) (h1 : G[a]? = some (nodeO .k_var 1 (.obj t) kl (.obj v) false)) (h2 : G[v]? = some (objO nm (.obj t) (k : Int))) (h3 : G[kl]? = some (.list [])) : CV G t a k
theorem CV.kp {b : Bool} {H H' : MH} (p : Kp b H H') {t a k : Nat} (h : CV H t a k) : CV H' t a k := by
 refine hide fun Ψ kΨ => ?_
 obtain ⟨kl, v, nm, h1, h2, h3⟩ := h
 refine kΨ ?_
 exact ⟨kl, v, nm, p.gt _ _ h1 rfl, p.gt _ _ h2 rfl, p.gt _ _ h3 rfl⟩
theorem CV.var {G : MH} {t a k : Nat} (ti : IsInt G t) (h : CV G t a k) : IsVarI G a (k : Int) := by
 obtain ⟨kl, v, nm, h1, h2, h3⟩ := h
 exact ⟨1, t, _, kl, v, false, nm, h1, ti, h2, h3⟩
theorem CV.new (H : MH) (nm : Nm) (t k : Nat) : CV (H ++ [objO nm (.obj t) k, .list [], nodeO .k_var 1 (.obj t) (H.length + 1) (.obj H.length) false]) t (H.length + 2) k :=
 ⟨H.length + 1, H.length, nm, ap_get H _ 2, ap_get0 H _, ap_get H _ 1⟩
structure Pk where
 ns : List Int
 T : Nat
 t : Nat
 b : Nat
 nn : Nat
 cl : Nat
 cs : List Nat
 tot : Nat
 ka : Nat
 row : Nat
 cnt : Nat
 el : Nat
 ad : Nat
 la : Nat
structure Base (p : Pk) (G : MH) : Prop where
 bd : BeadAt G
 ls : ListAt G p.ns
 ty : TysAt G p.T p.t p.b p.nn
 ti : IsInt G p.t
 tb : IsTy G p.b .k_boolean 0
 cl : G[p.cl]? = some (.list (p.cs.map V.obj))
 cv : ∀ (k a : Nat), p.cs[k]? = some a → CV G p.t a k
 tv : CV G p.t p.tot p.cnt
 kv : CV G p.row p.ka (p.cnt + 1)
 rt : IsTy G p.row .k_array 5
 el : IsEl G p.el p.cnt
 ad : IsAdd G p.ad p.cnt
theorem Base.kpF {p : Pk} {G G' : MH} (k : Kp false G G') (ty : TysAt G' p.T p.t p.b p.nn) (h : Base p G) : Base p G' :=
 ⟨k.bd h.bd, h.ls.kp k, ty, h.ti.kp k, h.tb.kp k, k.gt _ _ h.cl (good_objs _ _), fun i a e => (h.cv i a e).kp k, h.tv.kp k, h.kv.kp k, h.rt.kp k, k.el h.el, k.ad h.ad⟩
theorem Base.kp {p : Pk} {G G' : MH} (k : Kp true G G') (h : Base p G) : Base p G' := h.kpF k.weak (h.ty.kp k)
noncomputable def forX (L il c t : Nat) (tp : Int) : MH := [nodeO .k_block 5 .none il .none false, .list [], nodeO .k_const 1 (.obj t) (L + 1) (.int 0) false, .list [], nodeO .k_const 1 (.obj t) (L + 3) (.int tp) false, .list [.obj c, .obj (L + 2), .obj (L + 4), .obj L], nodeO .k_for 6 .none (L + 5) (.int 1) false, .list [.obj (L + 6)]]
noncomputable def whlX (L c b t : Nat) (tp : Int) (xs : List Nat) : MH := [.list [], nodeO .k_const 1 (.obj t) L (.int 1) false, .list [.obj c, .obj (L + 1)], nodeO .k_std 7 .none (L + 2) (.str .k_INC) false, .list [], nodeO .k_const 1 (.obj t) (L + 4) (.int tp) false, .list [.obj c, .obj (L + 5)], nodeO .k_le 8 (.obj b) (L + 6) .none false, .list [], nodeO .k_const 1 (.obj t) (L + 8) (.int 0) false, .list [.obj c, .obj (L + 9)], nodeO .k_assign 9 .none (L + 10) .none false, .list [.obj (L + 3)], .list (xs.map V.obj ++ [.obj (L + 3)]), nodeO .k_block 5 .none (L + 13) .none false, .list [.obj (L + 7), .obj (L + 14)], nodeO .k_while 10 .none (L + 15) .none false, .list [.obj (L + 11), .obj (L + 16)]]
noncomputable def innX (L ka cl t tot : Nat) : MH := [.list [.obj ka, .obj cl], nodeO .k_index 2 (.obj t) L .none false, .list [], nodeO .k_const 1 (.obj t) (L + 2) (.int 1) false, .list [.obj tot, .obj (L + 3)], nodeO .k_plus 3 (.obj t) (L + 4) .none false, .list [], nodeO .k_const 1 (.obj t) (L + 6) (.int 1) false, .list [.obj (L + 1), .obj (L + 7)], nodeO .k_assign 4 .none (L + 8) .none false, .list [.obj tot, .obj (L + 5)], nodeO .k_assign 4 .none (L + 10) .none false, .list [.obj (L + 9), .obj (L + 11)]]
section
variable {G : MH} {L t c : Nat} (ti : IsInt G t) {X : MH} (at_ : ∀ (k : Nat) (o : O), X[k]? = some o → (G ++ X)[L + k]? = some o)
theorem appAt (hL : L = G.length) : ∀ (k : Nat) (o : O), X[k]? = some o → (G ++ X)[L + k]? = some o := fun k o h => by rw [hL, ap_get]; exact h
include ti at_
theorem at_const {k : Nat} {z : Int} (h1 : X[k + 1]? = some (nodeO .k_const 1 (.obj t) (L + k) (.int z) false)) (h2 : X[k]? = some (.list [])) : IsConst (G ++ X) (L + (k + 1)) z := ⟨1, t, L + k, false, ti.pre (pre_app _ _), at_ _ _ h1, at_ _ _ h2⟩
end
theorem at_nd {G X : MH} {L k kl : Nat} (at_ : ∀ (k : Nat) (o : O), X[k]? = some o → (G ++ X)[L + k]? = some o) {op : Nm} {pl : Int} {ty val : V} {ks : List Nat} (h1 : X[k]? = some (nodeO op pl ty (L + kl) val false)) (h2 : X[kl]? = some (.list (ks.map V.obj))) : Nd (G ++ X) (L + k) op val ks := ⟨pl, ty, L + kl, false, at_ _ _ h1, at_ _ _ h2⟩
theorem map_snoc (xs : List Nat) (a : Nat) : xs.map V.obj ++ [.obj a] = (xs ++ [a]).map V.obj := (List.map_append (l₁ := xs) (l₂ := [a]) (f := V.obj)).symm
theorem for_built {G : MH} {L il c t d el cnt : Nat} {tp : Int} {ln : Nat → Nat} {top : Nat → Int} {xs : List Nat} (hL : L = G.length) (ti : IsInt G t) (hc : CV G t c d) (hi : G[il]? = some (.list (xs.map V.obj))) (h1 : ln d = L + 6) (h2 : top d = tp) :
  LoopS ⟨G ++ forX L il c t tp, 0, 0, 0, el, cnt, zeroF, ln, top⟩ d xs [L + 6] ∧ (G ++ forX L il c t tp)[L + 7]? = some (.list ([L + 6].map V.obj)) := by
 have at_ := appAt (X := forX L il c t tp) hL
 rw [← h1]
 refine ⟨.for_ ⟨c, L + 2, L + 4, L, ?_, (hc.kp (.app false _ _)).var (ti.pre (pre_app _ _)), at_const ti at_ (k := 1) rfl rfl, ?_, ⟨5, .none, il, false, at_ 0 _ rfl, app_get hi⟩⟩, ?_⟩
 ·show Nd _ (ln d) _ _ _
  rw [h1]; exact at_nd at_ (k := 6) (kl := 5) (ks := [c, L + 2, L + 4, L]) rfl rfl
 ·show IsConst _ _ (top d)
  rw [h2]; exact at_const ti at_ (k := 3) rfl rfl
 ·rw [h1]; exact at_ 7 _ rfl
theorem whl_built {G : MH} {L c t b d el cnt : Nat} {tp : Int} {ln : Nat → Nat} {top : Nat → Int} {xs : List Nat} (hL : L = G.length) (ti : IsInt G t) (tb : IsTy G b .k_boolean 0) (hc : CV G t c d) (h1 : ln d = L + 16) (h2 : top d = tp) :
  LoopS ⟨G ++ whlX L c b t tp xs, 0, 0, 0, el, cnt, zeroF, ln, top⟩ d xs [L + 11, L + 16] ∧ (G ++ whlX L c b t tp xs)[L + 17]? = some (.list ([L + 11, L + 16].map V.obj)) := by
 have at_ := appAt (X := whlX L c b t tp xs) hL
 have hv := (hc.kp (.app false _ (whlX L c b t tp xs))).var (ti.pre (pre_app _ _))
 rw [← h1]
 refine ⟨.whl ⟨L + 7, L + 14, L + 3, c, L + 1, ?_, ⟨8, b, L + 6, .none, false, c, L + 5, at_ 7 _ rfl, tb.pre (pre_app _ _), at_ 6 _ rfl, hv, ?_⟩, at_nd at_ (k := 14) (kl := 13) (ks := xs ++ [L + 3]) rfl (congrArg (fun l => some (O.list l)) (map_snoc xs (L + 3))), at_nd at_ (k := 3) (kl := 2) (ks := [c, L + 1]) rfl rfl, hv, at_const ti at_ (k := 0) rfl rfl⟩ (at_nd at_ (k := 11) (kl := 10) (ks := [c, L + 9]) rfl rfl) hv (at_const ti at_ (k := 8) rfl rfl), ?_⟩
 ·show Nd _ (ln d) _ _ _
  rw [h1]; exact at_nd at_ (k := 16) (kl := 15) (ks := [L + 7, L + 14]) rfl rfl
 ·show IsConst _ _ (top d)
  rw [h2]; exact at_const ti at_ (k := 4) rfl rfl
 ·rw [h1]; exact at_ 17 _ rfl
theorem inner_built {G : MH} {L ka cl t tot row cnt : Nat} {ln : Nat → Nat} {top : Nat → Int} (hL : L = G.length) (ti : IsInt G t) (hc : CV G t cl (cnt - 1)) (ht : CV G t tot cnt) (hk : CV G row ka (cnt + 1)) (hr : IsTy G row .k_array 5) :
  IsEl (G ++ innX L ka cl t tot) (L + 1) cnt ∧ IsAdd (G ++ innX L ka cl t tot) (L + 5) cnt ∧ InnerS ⟨G ++ innX L ka cl t tot, 0, 0, 0, L + 1, cnt, zeroF, ln, top⟩ [L + 9, L + 11] ∧ (G ++ innX L ka cl t tot)[L + 12]? = some (.list ([L + 9, L + 11].map V.obj)) := by
 have at_ := appAt (X := innX L ka cl t tot) hL
 have q := Kp.app false G (innX L ka cl t tot)
 have ti' := ti.kp q
 have ht' := (ht.kp q).var ti'
 obtain ⟨kl, v, nm, k1, k2, k3⟩ := hk.kp q
 have a : IsAdd (G ++ innX L ka cl t tot) (L + 5) cnt := ⟨3, _, L + 4, .none, false, tot, L + 3, at_ 5 _ rfl, at_ 4 _ rfl, ht', at_const ti at_ (k := 2) rfl rfl⟩
 exact ⟨⟨2, t, L, .none, false, ka, cl, 1, row, kl, v, false, _, nm, at_ 1 _ rfl, ti', at_ 0 _ rfl, (hc.kp q).var ti', k1, hr.kp q, k2, k3⟩, a,
  ⟨at_nd at_ (k := 9) (kl := 8) (ks := [L + 1, L + 7]) rfl rfl, at_const ti at_ (k := 6) rfl rfl, at_nd at_ (k := 11) (kl := 10) (ks := [tot, L + 5]) rfl rfl, ht', a⟩, at_ 12 _ rfl⟩
noncomputable abbrev LB : S := F_k_law_loops_right.1.body
theorem n_ProcTree (n : Nat) (H : MH) {o : Nat} {nm kind : Nm} {ty : V} (h : H[o]? = some (objI nm kind ty 0 0 .k_empty 0)) : cf (n + 1) (.g .k_ProcTree) [.obj o] H = some (.obj H.length, H ++ [.inst .k_ProcTree [(.k_obj, .obj o), (.k_params, .obj (H.length + 1)), (.k_locals, .obj (H.length + 2)), (.k_procs, .obj (H.length + 3)), (.k_body, .none), (.k_result, .none), (.k_level, .int 1)], .list [], .list [], .list []]) := by
 refine cf_cls (ρ := [(.k_self, .obj H.length), (.k_obj, .obj o)]) rfl rfl rfl rfl rfl ?_
 refine asg_sim rfl rfl (fun _ _ h => h) (asg_new rfl rfl (asg_new rfl rfl (asg_new rfl rfl (asg_sim rfl rfl (fun _ _ h => h) (asg_sim rfl rfl (fun _ _ h => h) ?_)))))
 exact WO.s (attr_s (app_get h) rfl) (WO.s (set_new rfl) ⟨rfl, rfl⟩)
theorem appA3 {H X : MH} {a b : O} : H ++ X ++ [a] ++ [b] = H ++ (X ++ [a, b]) := by rw [List.append_assoc, List.append_assoc]; rfl
theorem lenA3 {H X : MH} {a : O} : (H ++ X ++ [a]).length = H.length + (X.length + 1) := by rw [List.append_assoc, List.length_append, List.length_append]; rfl
theorem n_nodeG (n : Nat) {G H X : MH} (hG : G = H ++ X) (op : Nm) (pl : Int) (ty : V) (vs : List V) (val : V) : cf (n + 1) (.g .k_Node) [.str op, .int pl, ty, .obj G.length, val] (G ++ [.list vs]) = some (.obj (H.length + (X.length + 1)), H ++ (X ++ [.list vs, nodeO op pl ty (H.length + X.length) val false])) := by
 subst hG
 refine (n_Node n _ op pl ty _ val).trans ?_
 rw [appA3, lenA3, List.length_append]
theorem n_nodeG4 (n : Nat) {G H X : MH} (hG : G = H ++ X) (op : Nm) (pl : Int) (ty : V) (vs : List V) : cf (n + 1) (.g .k_Node) [.str op, .int pl, ty, .obj G.length] (G ++ [.list vs]) = some (.obj (H.length + (X.length + 1)), H ++ (X ++ [.list vs, nodeO op pl ty (H.length + X.length) .none false])) := by
 subst hG
 refine (n_Node4 n _ op pl ty _).trans ?_
 rw [appA3, lenA3, List.length_append]
theorem c_constG (n : Nat) (H X : MH) (t : Nat) (c : Int) : cf (n + 2) (.g .k_law_const) [.obj t, .int c] (H ++ X) = some (.obj (H.length + (X.length + 1)), H ++ (X ++ [.list [], nodeO .k_const 1 (.obj t) (H.length + X.length) (.int c) false])) := by
 have e := c_law_const n (H ++ X) t c
 rw [List.length_append, List.append_assoc] at e
 exact e
theorem vars_w {n t : Nat} {a b c : V} : ∀ (m s : Nat) (H : MH) {Q : List V → MH → Prop}, (∀ (cs : List Nat) (H' : MH), H <+: H' → cs.length = m → (∀ (k x : Nat), cs[k]? = some x → CV H' t x (s + k)) → Q (cs.map V.obj) H') →
  wCo (cf (n + 2)) [(.k_string_of, a), (.k_types, b), (.k_t, .obj t), (.k_count, c)] .k_slot (.call (.glob .k_law_var) (.cons (.loc .k_t) (.cons (.cstr .k_v) (.cons (.loc .k_slot) .nil)))) (stepFrom (s : Int) 1 m) H Q
 | 0, s, H, Q, k => k [] H (List.prefix_refl _) rfl fun k x h => by cases h
 | m + 1, s, H, Q, k => by
  have e1 := c_law_var n H .k_v t s
  have v1 := CV.new H .k_v t s
  have p1 := pre_app H [objO .k_v (.obj t) (s : Int), .list [], nodeO .k_var 1 (.obj t) (H.length + 1) (.obj H.length) false]
  refine W2.s e1 ?_
  generalize H ++ [objO .k_v (.obj t) (s : Int), .list [], nodeO .k_var 1 (.obj t) (H.length + 1) (.obj H.length) false] = H1 at v1 p1 ⊢
  refine vars_w m (s + 1) H1 fun cs H' p hl hc => k ((H.length + 2) :: cs) H' (p1.trans p) (congrArg (· + 1) hl) fun i x h => ?_
  cases i with
  | zero => cases h; exact v1.kp (Kp.pre (b := false) p)
  | succ i =>
   have := hc i x h
   rwa [Nat.add_right_comm] at this
theorem put_len {k : Nm} {v w : V} : ∀ {l : List (Nm × V)}, get k l = some w → (put k v l).length = l.length
 | [], h => nomatch h
 | (a, b) :: r, h => by
  unfold get at h
  unfold put
  if e : a = k then rw [if_pos e]; rfl
  else
   rw [if_neg e] at h ⊢
   exact congrArg (· + 1) (put_len h)
theorem g_put {k x : Nm} {v w : V} {l : List (Nm × V)} (n : decide (x = k) = false) (h : get k l = some w) : get k (put x v l) = some w := get_put2.trans ((if_neg (of_decide_eq_false n)).trans h)
noncomputable def tyH (G : MH) (num : Int) (form : Nm) (size : Int) (base : V) (len : Int) : MH := G ++ [typeO num form size base len (G.length + 1) (G.length + 2) (G.length + 3), .list [], .list [], .list []]
theorem tyH_kp (b : Bool) (G : MH) (num : Int) (form : Nm) (size : Int) (base : V) (len : Int) : Kp b G (tyH G num form size base len) := .app _ _ _
theorem tyH_at (G : MH) (num : Int) (form : Nm) (size : Int) (base : V) (len : Int) : IsTy (tyH G num form size base len) G.length form len := ⟨_, _, _, _, _, _, ap_get0 G _⟩
theorem tyH_len (G : MH) (num : Int) (form : Nm) (size : Int) (base : V) (len l : Int) : setAttrV (tyH G num form size base len) (.obj G.length) .k_length (.int l) = some (tyH G num form size base l) := set_new rfl
theorem tyH_base (G : MH) (num : Int) (form : Nm) (size : Int) (base : V) (len : Int) (b : V) : setAttrV (tyH G num form size base len) (.obj G.length) .k_base b = some (tyH G num form size b len) := set_new rfl
theorem new_type (n : Nat) {H : MH} {T t b nn : Nat} (hy : TysAt H T t b nn) (form : Nm) (size : Int) : ∃ (G : MH) (num : Int), cf (n + 2) (.g .k_Types_new) [.obj T, .str form, .int size] H = some (.obj G.length, tyH G num form size .none 0) ∧ Kp false H G ∧ TysAt G T t b nn := by
 refine hide fun Ψ kΨ => ?_
 obtain ⟨fs, num, y1, y2, y3, y4, y5, y6⟩ := hy
 refine kΨ ?_
 exact ⟨_, _, c_Types_new n H T fs num form size y1 y3 (Nat.lt_trans y2 (Nat.le_of_ble_eq_true rfl)) rfl, Kp.set y1 rfl (fun _ _ e => nomatch e),
  _, _, set_same y1, by rw [put_len y3]; exact y2, get_put2.trans (if_pos rfl), g_put rfl y4, g_put rfl y5, g_put rfl y6⟩
theorem meth_new {H : MH} {T t b nn : Nat} (hy : TysAt H T t b nn) : methOf H (.obj T) .k_new = some (some .k_Types_new) := by
 refine hide fun Ψ kΨ => ?_
 obtain ⟨fs, num, y1, _⟩ := hy
 refine kΨ ?_
 show o1 H[T]? _ = _
 rw [y1]; rfl
noncomputable abbrev ρ4 (T t : Nat) (cnt : Int) (cl : Nat) : Loc := [(.k_string_of, .obj 1), (.k_types, .obj T), (.k_t, .obj t), (.k_count, .int cnt), (.k_counters, .obj cl)]
noncomputable abbrev ρ7 (T t : Nat) (cnt : Int) (cl row : Nat) : Loc := [(.k_string_of, .obj 1), (.k_types, .obj T), (.k_t, .obj t), (.k_count, .int cnt), (.k_counters, .obj cl), (.k_row, .obj row)]
theorem seg_row (n : Nat) {H : MH} {T t b nn cl : Nat} {cnt : Int} {Q : Fl → Loc → MH → Prop} (hy : TysAt H T t b nn)
  (k : ∀ H' a, Kp false H H' → TysAt H' T t b nn → IsTy H' a .k_array 5 → wS (cf (n + 2)) (drp 7 LB) (ρ7 T t cnt cl a) H' Q) : wS (cf (n + 2)) (drp 4 LB) (ρ4 T t cnt cl) H Q := by
 refine hide fun Ψ kΨ => ?_
 obtain ⟨G, num, e1, k1, ty⟩ := new_type n hy .k_array 20
 refine kΨ ?_
 have kp := tyH_kp true G num .k_array 20 (.obj t) 5
 refine w_seg 3 [fm (meth_new hy), fc e1, fh (tyH_len G num .k_array 20 .none 0 5), fh (tyH_base G num .k_array 20 .none 5 (.obj t))] (y := (.next, ρ7 T t cnt cl G.length, tyH G num .k_array 20 (.obj t) 5)) (by kernel_rfl) ?_
 exact k _ _ (k1.trans kp.weak) (ty.kp kp) (tyH_at _ _ _ _ _ _)
noncomputable def topsV (top : Nat → Int) (d j : Nat) : List V := (List.range' d j).map fun i => V.int (top i)
theorem good_tops (b : Bool) (top : Nat → Int) (d j : Nat) : good b (.list (topsV top d j)) = true := by
 unfold topsV
 match j with
 | 0 => rfl
 | 1 => rfl
 | 2 => rfl
 | j + 3 => rfl
inductive Iv (p : Pk) (d j il : Nat) (H : MH) : Prop
 | mk (xs : List Nat) (ln : Nat → Nat) (top : Nat → Int) (hB : Base p (nz p.la H)) (gi : (nz p.la H)[il]? = some (.list (xs.map V.obj))) (hx : xs.length ≤ 2) (hn : Nest ⟨nz p.la H, 0, 0, 0, p.el, p.cnt, zeroF, ln, top⟩ d xs) (hl : H[p.la]? = some (.list (topsV top d j))) (ht : ∀ i, 0 ≤ top i ∧ top i ≤ 6) (h1 : ∀ i k, d ≤ i → i < k → k < p.cnt → ln k < ln i) (h2 : ∀ i, d ≤ i → i < p.cnt → ln i < H.length) (hj : d + j = p.cnt) (hla : p.la ≠ 1) : Iv p d j il H
noncomputable abbrev ρ9 (T t : Nat) (cnt : Int) (cl row tot ka : Nat) : Loc := [(.k_string_of, .obj 1), (.k_types, .obj T), (.k_t, .obj t), (.k_count, .int cnt), (.k_counters, .obj cl), (.k_row, .obj row), (.k_total, .obj tot), (.k_kept_in, .obj ka)]
noncomputable abbrev ρC (T t : Nat) (cnt : Int) (cl row tot ka el ad il : Nat) : Loc := [(.k_string_of, .obj 1), (.k_types, .obj T), (.k_t, .obj t), (.k_count, .int cnt), (.k_counters, .obj cl), (.k_row, .obj row), (.k_total, .obj tot), (.k_kept_in, .obj ka), (.k_element, .obj el), (.k_added, .obj ad), (.k_inner, .obj il)]
noncomputable abbrev ρL (p : Pk) (il : Nat) : Loc := [(.k_string_of, .obj 1), (.k_types, .obj p.T), (.k_t, .obj p.t), (.k_count, .int p.cnt), (.k_counters, .obj p.cl), (.k_row, .obj p.row), (.k_total, .obj p.tot), (.k_kept_in, .obj p.ka), (.k_element, .obj p.el), (.k_added, .obj p.ad), (.k_inner, .obj il), (.k_lasts, .obj p.la)]
theorem nth_last {xs : List V} {m : Nat} {w : V} (h : xs[m]? = some w) (hl : xs.length = m + 1) : nth xs (-1) = some w := by
 have h0 : ((xs.length : Int) + -1) = (m : Int) := by rw [hl]; omega
 refine (if_neg (by decide)).trans ?_
 rw [h0]
 exact (if_pos (Int.natCast_nonneg m)).trans h
theorem seg_mid (n : Nat) {H : MH} {ns : List Int} {T t b nn cl row cnt : Nat} {cs : List Nat} {Q : Fl → Loc → MH → Prop} (hc : 1 ≤ cnt) (bd : BeadAt H) (ls : ListAt H ns) (ty : TysAt H T t b nn) (ti : IsInt H t) (tb : IsTy H b .k_boolean 0) (hcl : H[cl]? = some (.list (cs.map V.obj))) (hlen : cs.length = cnt) (hcv : ∀ (k a : Nat), cs[k]? = some a → CV H t a k) (hr : IsTy H row .k_array 5)
  (k : ∀ tot ka el ad la il H', Iv ⟨ns, T, t, b, nn, cl, cs, tot, ka, row, cnt, el, ad, la⟩ cnt 0 il H' → wS (cf (n + 2)) (drp 13 LB) (ρL ⟨ns, T, t, b, nn, cl, cs, tot, ka, row, cnt, el, ad, la⟩ il) H' Q) : wS (cf (n + 2)) (drp 7 LB) (ρ7 T t cnt cl row) H Q := by
 have e6 := c_law_var n H .k_s t cnt
 have v6 := CV.new H .k_s t cnt
 have k6 := Kp.app true H [objO .k_s (.obj t) (cnt : Int), .list [], nodeO .k_var 1 (.obj t) (H.length + 1) (.obj H.length) false]
 generalize H ++ [objO .k_s (.obj t) (cnt : Int), .list [], nodeO .k_var 1 (.obj t) (H.length + 1) (.obj H.length) false] = H6 at e6 v6 k6
 have e7 := c_law_var n H6 .k_a row ((cnt + 1 : Nat) : Int)
 have v7 := CV.new H6 .k_a row (cnt + 1)
 have k7 := Kp.app true H6 [objO .k_a (.obj row) ((cnt + 1 : Nat) : Int), .list [], nodeO .k_var 1 (.obj row) (H6.length + 1) (.obj H6.length) false]
 generalize H6 ++ [objO .k_a (.obj row) ((cnt + 1 : Nat) : Int), .list [], nodeO .k_var 1 (.obj row) (H6.length + 1) (.obj H6.length) false] = H7 at e7 v7 k7
 generalize H6.length + 2 = ka at e7 v7
 generalize H.length + 2 = tot at e6 v6
 refine w_seg 2 [fc e6, fc e7] (y := (.next, ρ9 T t cnt cl row tot ka, H7)) (by kernel_rfl) ?_
 have k57 := k6.trans k7
 have v6 := v6.kp k7
 have g7 := k57.gt _ _ hcl (good_objs _ _)
 have ti7 := ti.kp k57
 refine hide fun Ψ kΨ => ?_
 obtain ⟨c, hc2⟩ : ∃ c, cs[cnt - 1]? = some c := ⟨cs[cnt - 1]'(by omega), List.getElem?_eq_getElem _⟩
 have hlast : nth (cs.map V.obj) (-1) = some (.obj c) := nth_last (m := cnt - 1) (by rw [List.getElem?_map, hc2]; rfl) (by rw [List.length_map]; omega)
 obtain ⟨b1, b2, b3, b4⟩ := inner_built (ln := fun _ => 0) (top := fun _ => 0) rfl ti7 ((hcv _ _ hc2).kp k57) v6 v7 (hr.kp k57)
 refine kΨ ?_
 have k78 := Kp.app true H7 (innX H7.length ka c t tot)
 refine w_seg 3 [fv (sub_l g7 hlast), fc (n_nodeG4 (n + 1) (List.append_nil H7).symm .k_index 2 (.obj t) [.obj ka, .obj c]), fc (c_constG n H7 ((innX H7.length ka c t tot).take 2) t 1), fc (n_nodeG4 (n + 1) (G := H7 ++ (innX H7.length ka c t tot).take 4) rfl .k_plus 3 (.obj t) [.obj tot, .obj (H7.length + 3)]),
  fc (c_constG n H7 ((innX H7.length ka c t tot).take 6) t 1), fc (n_nodeG4 (n + 1) (G := H7 ++ (innX H7.length ka c t tot).take 8) rfl .k_assign 4 .none [.obj (H7.length + 1), .obj (H7.length + 7)]), fc (n_nodeG4 (n + 1) (G := H7 ++ (innX H7.length ka c t tot).take 10) rfl .k_assign 4 .none [.obj tot, .obj (H7.length + 5)])]
  (y := (.next, ρC T t cnt cl row tot ka (H7.length + 1) (H7.length + 5) (H7 ++ (innX H7.length ka c t tot).take 12).length, H7 ++ (innX H7.length ka c t tot).take 12 ++ [.list [.obj (H7.length + 9), .obj (H7.length + 11)]])) (by kernel_rfl) ?_
 rw [List.append_assoc, show (H7 ++ (innX H7.length ka c t tot).take 12).length = H7.length + 12 from List.length_append]
 show wS (cf (n + 2)) (drp 12 LB) (ρC T t cnt cl row tot ka (H7.length + 1) (H7.length + 5) (H7.length + 12)) (H7 ++ innX H7.length ka c t tot) Q
 generalize H7 ++ innX H7.length ka c t tot = H8 at b1 b2 b3 b4 k78 ⊢
 generalize H7.length = L at b1 b2 b3 b4 k78 ⊢
 have k58 := k57.trans k78
 have B8 : Base ⟨ns, T, t, b, nn, cl, cs, tot, ka, row, cnt, L + 1, L + 5, H8.length⟩ H8 :=
  ⟨k58.bd bd, ls.kp k58, ty.kp k58, ti.kp k58, tb.kp k58, k78.gt _ _ g7 (good_objs _ _), fun k a e => (hcv k a e).kp k58, v6.kp k78, v7.kp k78, hr.kp k58, b1, b2⟩
 refine w_seg 1 [] (y := (.next, ρL ⟨ns, T, t, b, nn, cl, cs, tot, ka, row, cnt, L + 1, L + 5, H8.length⟩ (L + 12), H8 ++ [.list []])) (by kernel_rfl) ?_
 have hnz : nz H8.length (H8 ++ [.list []]) = H8 ++ [.list [.none]] := app_set H8 (.list []) (.list [.none])
 have p9 := Kp.app true H8 [.list [.none]]
 refine k _ _ _ _ _ _ _ ⟨[L + 9, L + 11], fun _ => 0, fun _ => 0, ?_, ?_, Nat.le_refl _, ?_, app_new _ _, fun _ => ⟨Int.le_refl _, of_decide_eq_true rfl⟩, fun i k h1 h2 h3 => ?_, fun i h1 h2 => ?_, rfl, ?_⟩
 ·show Base _ (nz H8.length _)
  rw [hnz]; exact B8.kp p9
 ·show (nz H8.length _)[_]? = _
  rw [hnz]; exact app_get b4
 ·show Nest ⟨nz H8.length _, 0, 0, 0, L + 1, cnt, zeroF, fun _ => 0, fun _ => 0⟩ cnt _
  rw [hnz]
  exact Nest.pv (C := ⟨H8, 0, 0, 0, L + 1, cnt, zeroF, fun _ => 0, fun _ => 0⟩) (C' := ⟨H8 ++ [.list [.none]], 0, 0, 0, L + 1, cnt, zeroF, fun _ => 0, fun _ => 0⟩) p9.pv rfl rfl (fun _ _ => ⟨rfl, rfl⟩) (.base b3)
 ·exact (Nat.lt_irrefl _ (Nat.lt_trans (Nat.lt_of_le_of_lt h1 h2) h3)).elim
 ·exact (Nat.lt_irrefl _ (Nat.lt_of_le_of_lt h1 h2)).elim
 ·obtain ⟨j, hj⟩ := B8.bd
  exact fun e => Nat.lt_irrefl _ (Nat.lt_of_lt_of_eq (lt_of_get hj) e)
noncomputable def updA {α : Type} (f : Nat → α) (d : Nat) (v : α) : Nat → α := fun i => if i = d then v else f i
theorem updA_same {α : Type} {f : Nat → α} {d : Nat} {v : α} : updA f d v d = v := if_pos rfl
theorem updA_ne {α : Type} {f : Nat → α} {d i : Nat} {v : α} (h : i ≠ d) : updA f d v i = f i := if_neg h
theorem tops_cons {top : Nat → Int} {d j : Nat} {tp : Int} : topsV (updA top d tp) d (j + 1) = .int tp :: topsV top (d + 1) j := by
 unfold topsV
 rw [List.range'_succ, List.map_cons, updA_same]
 refine congrArg (_ :: ·) (List.map_congr_left fun i hi => ?_)
 rw [updA_ne (Nat.ne_of_gt (List.mem_range'_1.mp hi).1)]
theorem ins_l {H : MH} {i : Nat} {xs : List V} {v : V} (h : H[i]? = some (.list xs)) (hl : xs.length < 100000) : listM i .k_insert [.int 0, v] H = some (.none, H.set i (.list (v :: xs))) := by
 show o1 H[i]? _ = _
 rw [h]
 exact if_pos (c := (0 : Int) = 0 ∧ xs.length < 100000) (e := none) ⟨rfl, hl⟩
theorem range_down {m : Nat} (h : m ≤ 7) : rangeV [.int ((m : Int) - 1), .int (-1), .int (-1)] = some (stepFrom ((m : Int) - 1) (-1) m) := by
 show orE none (if ((m : Int) - 1).natAbs ≤ 1000 ∧ _ then _ else none) = _
 rw [if_pos ⟨by omega, by decide⟩]
 show some (stepFrom ((m : Int) - 1) (-1) ((m : Int) - 1 - -1).toNat) = _
 rw [show ((m : Int) - 1 - -1).toNat = m by omega]
section
variable {p : Pk} {d j L : Nat} {H H12 X : MH} {xs ys : List Nat} {ln : Nat → Nat} {top : Nat → Int} {tp : Int}
theorem mk_iv {il : Nat} (hB : Base p (nz p.la H12)) (kz : Kp true (nz p.la H) (nz p.la H12)) (hn : Nest ⟨nz p.la H, 0, 0, 0, p.el, p.cnt, zeroF, ln, top⟩ (d + 1) ys) (ht : ∀ i, 0 ≤ top i ∧ top i ≤ 6) (h1 : ∀ i k, d + 1 ≤ i → i < k → k < p.cnt → ln k < ln i) (h2 : ∀ i, d + 1 ≤ i → i < p.cnt → ln i < H.length) (hl : H12[p.la]? = some (.list (topsV (updA top d tp) d (j + 1)))) (hd : d + 1 + j = p.cnt) (t0 : 0 ≤ tp) (t1 : tp < 7) (hL : H12.length ≤ L) (hL2 : L < H12.length + X.length) (hx : xs.length ≤ 2)
  (S : LoopS ⟨nz p.la H12 ++ X, 0, 0, 0, p.el, p.cnt, zeroF, updA ln d L, updA top d tp⟩ d ys xs ∧ (nz p.la H12 ++ X)[il]? = some (.list (xs.map V.obj))) (hla : p.la ≠ 1) : Iv p d (j + 1) il (H12 ++ X) := by
 have hlt := lt_of_get hl
 have hdc : d < p.cnt := by omega
 have hHL : H.length ≤ L := Nat.le_trans (by have := kz.ln; rwa [nz_len, nz_len] at this) hL
 have e := nz_app hlt X
 refine ⟨xs, updA ln d L, updA top d tp, e ▸ hB.kp (.app _ _ _), e ▸ S.2, hx, ?_, app_get hl, fun i => ?_, fun i k a b c => ?_, fun i a b => ?_, by omega, hla⟩
 ·rw [e]
  exact .loop hdc (Nest.pv (C := ⟨nz p.la H, 0, 0, 0, p.el, p.cnt, zeroF, ln, top⟩) (C' := ⟨nz p.la H12 ++ X, 0, 0, 0, p.el, p.cnt, zeroF, updA ln d L, updA top d tp⟩) (kz.trans (.app _ _ _)).pv rfl rfl (fun i hi => ⟨updA_ne (Nat.ne_of_gt hi), updA_ne (Nat.ne_of_gt hi)⟩) hn) S.1
 ·if h : i = d then
   rw [h, updA_same]; omega
  else
   rw [updA_ne h]; exact ht i
 ·rw [updA_ne (show k ≠ d from Nat.ne_of_gt (Nat.lt_of_le_of_lt a b))]
  if h : i = d then
   rw [h, updA_same]; exact Nat.lt_of_lt_of_le (h2 k (Nat.lt_of_le_of_lt a b) c) hHL
  else
   rw [updA_ne h]; exact h1 i k (Nat.lt_of_le_of_ne a (Ne.symm h)) b c
 ·rw [List.length_append]
  if h : i = d then
   rw [h, updA_same]; exact hL2
  else
   rw [updA_ne h]; exact Nat.lt_trans (Nat.lt_of_lt_of_le (h2 i (Nat.lt_of_le_of_ne a (Ne.symm h)) b) hHL) hL2
end
theorem seg_loop (n : Nat) {p : Pk} {il : Nat} {H : MH} {Q : Fl → Loc → MH → Prop} (hc : p.cnt ≤ 7) (hcs : p.cs.length = p.cnt) (I : Iv p p.cnt 0 il H)
  (k : ∀ il H', Iv p 0 p.cnt il H' → wS (cf (n + 2)) (drp 14 LB) (ρL p il) H' Q) : wS (cf (n + 2)) (drp 13 LB) (ρL p il) H Q := by
 apply wl_rangeI
 refine ⟨_, range_down hc, fun k ρ H' => ∃ il d, ρL p il = ρ ∧ Iv p d k il H', ⟨il, _, rfl, I⟩, fun _ _ _ _ => rfl, ?_, ?_⟩
 ·rintro j v hv _ H' ⟨il, d', rfl, xs, ln, top, hB, gi, hx, hn, hl, ht, h1, h2, hj, hla⟩
  have hjc : j < p.cnt := by
   have := (List.getElem?_eq_some_iff.mp hv).1
   rwa [stepFrom_len] at this
  obtain ⟨d, rfl⟩ : ∃ d, d' = d + 1 := ⟨d' - 1, by omega⟩
  have hvd : v = .int (d : Int) := by
   rw [stepFrom_get _ _ _ _ hjc] at hv
   rw [← Option.some.inj hv, show (p.cnt : Int) - 1 + -1 * (j : Int) = (d : Int) by omega]
  subst hvd
  have BH := hB.kp (Kp.un H')
  refine hide fun Ψ kΨ => ?_
  obtain ⟨tp, H10, e10, t0, t1, k10⟩ := c_bead n (lim := 7) (by decide) BH.bd BH.ls
  have hla10 := k10.gt _ _ hl (good_tops _ _ _ _)
  have hins := ins_l (v := .int tp) hla10 (by unfold topsV; rw [List.length_map, List.length_range']; omega)
  have hla11 := set_same (o := .list (.int tp :: topsV top (d + 1) j)) hla10
  have kz11 := k10.nz hla
  rw [← nz_set p.la H10 (.list (.int tp :: topsV top (d + 1) j))] at kz11
  generalize H10.set p.la (.list (.int tp :: topsV top (d + 1) j)) = H11 at hins hla11 kz11
  rw [← tops_cons] at hla11
  have BH11 := (hB.kp kz11).kp (Kp.un H11)
  obtain ⟨c2, H12, e12, q0, q1, k12⟩ := c_bead n (lim := 2) (by decide) BH11.bd BH11.ls
  have hla12 := k12.gt _ _ hla11 (good_tops _ _ _ _)
  have kz12 := kz11.trans (k12.nz hla)
  have B12 := hB.kp kz12
  have BH12 := B12.kp (Kp.un H12)
  have gi12 := kz12.gt _ _ gi (good_objs _ _)
  obtain ⟨c, hcd⟩ : ∃ c, p.cs[d]? = some c := ⟨p.cs[d]'(by omega), List.getElem?_eq_getElem _⟩
  refine kΨ ?_
  have hcv := B12.cv d c hcd
  have gcl := BH12.cl
  have hcn : nth (p.cs.map V.obj) (d : Int) = some (.obj c) := (if_pos (Int.natCast_nonneg d)).trans (by rw [Int.toNat_natCast, List.getElem?_map, hcd]; rfl)
  have m1 := meth_l hla10 (n := .k_insert) (.inr (.inr rfl))
  if hx0 : c2 = 0 then
   refine w_seg 3 [fc e10, fm m1, fc hins, fc e12, fb (decide_eq_true hx0), fc (n_Node4 (n + 1) H12 .k_block 5 .none il), fv (sub_l (app_get (X := (forX H12.length il c p.t tp).take 1) gcl) hcn), fc (c_constG n H12 ((forX H12.length il c p.t tp).take 1) p.t 0), fc (c_constG n H12 ((forX H12.length il c p.t tp).take 3) p.t tp), fc (n_nodeG (n + 1) (G := H12 ++ (forX H12.length il c p.t tp).take 5) rfl .k_for 6 .none [.obj c, .obj (H12.length + 2), .obj (H12.length + 4), .obj H12.length] (.int 1))]
    (y := (.next, ρL p (H12 ++ (forX H12.length il c p.t tp).take 7).length ++ [(.k_slot, .int d), (.k_top, .int tp), (.k_block, .obj H12.length)], H12 ++ (forX H12.length il c p.t tp).take 7 ++ [.list [.obj (H12.length + 6)]])) (by kernel_rfl) ?_
   rw [List.append_assoc, show (H12 ++ (forX H12.length il c p.t tp).take 7).length = H12.length + 7 from List.length_append]
   exact ⟨ρL p (H12.length + 7), by ((repeat (apply Sub.cons; (· rfl))); exact Sub.nil), _, d, rfl, mk_iv (X := forX H12.length il c p.t tp) (L := H12.length + 6) B12 kz12 hn ht h1 h2 hla12 hj t0 t1 (Nat.le_add_right _ _) (Nat.add_lt_add_left (Nat.le_of_ble_eq_true rfl) _) (Nat.le_of_ble_eq_true rfl) (for_built (nz_len _ _).symm B12.ti hcv gi12 updA_same updA_same) hla⟩
  else
   have giH := (nz_get gi12 (good_nn (b := true) (good_objs _ _))).2
   refine hide fun Ψ kΨ => ?_
   obtain ⟨fs, num, y1, y2, y3, y4, y5, y6⟩ := BH12.ty
   refine kΨ ?_
   refine w_seg 3 [fc e10, fm m1, fc hins, fc e12, fb (decide_eq_false hx0),
     fv (sub_l gcl hcn), fc (c_law_const n H12 p.t 1), fc (n_nodeG (n + 1) (G := H12 ++ (whlX H12.length c p.b p.t tp xs).take 2) rfl .k_std 7 .none [.obj c, .obj (H12.length + 1)] (.str .k_INC)),
     fv (attr_s (app_get (X := (whlX H12.length c p.b p.t tp xs).take 4) y1) y5), fv (sub_l (app_get (X := (whlX H12.length c p.b p.t tp xs).take 4) gcl) hcn), fc (c_constG n H12 ((whlX H12.length c p.b p.t tp xs).take 4) p.t tp), fc (n_nodeG4 (n + 1) (G := H12 ++ (whlX H12.length c p.b p.t tp xs).take 6) rfl .k_le 8 (.obj p.b) [.obj c, .obj (H12.length + 5)]),
     fv (sub_l (app_get (X := (whlX H12.length c p.b p.t tp xs).take 8) gcl) hcn), fc (c_constG n H12 ((whlX H12.length c p.b p.t tp xs).take 8) p.t 0), fc (n_nodeG4 (n + 1) (G := H12 ++ (whlX H12.length c p.b p.t tp xs).take 10) rfl .k_assign 9 .none [.obj c, .obj (H12.length + 9)]),
     fc (add_l (app_get (X := [.list [.obj (H12.length + 3)]]) (app_get (X := (whlX H12.length c p.b p.t tp xs).take 12) giH)) (app_new (H12 ++ (whlX H12.length c p.b p.t tp xs).take 12) (.list [.obj (H12.length + 3)])) (by rw [List.length_map]; exact Nat.le_trans (Nat.add_le_add_right hx 1) (Nat.le_of_ble_eq_true rfl))),
     fc (n_nodeG4 (n + 1) (G := H12 ++ (whlX H12.length c p.b p.t tp xs).take 12 ++ [.list [.obj (H12.length + 3)]]) (List.append_assoc H12 ((whlX H12.length c p.b p.t tp xs).take 12) [.list [.obj (H12.length + 3)]]) .k_block 5 .none (xs.map V.obj ++ [.obj (H12.length + 3)])),
     fc (n_nodeG4 (n + 1) (G := H12 ++ (whlX H12.length c p.b p.t tp xs).take 15) rfl .k_while 10 .none [.obj (H12.length + 7), .obj (H12.length + 14)])]
    (y := (.next, ρL p (H12 ++ (whlX H12.length c p.b p.t tp xs).take 17).length ++ [(.k_slot, .int d), (.k_top, .int tp), (.k_step, .obj (H12.length + 3)), (.k_test, .obj (H12.length + 7)), (.k_start, .obj (H12.length + 11))], H12 ++ (whlX H12.length c p.b p.t tp xs).take 17 ++ [.list [.obj (H12.length + 11), .obj (H12.length + 16)]])) (by kernel_rfl) ?_
   rw [List.append_assoc, show (H12 ++ (whlX H12.length c p.b p.t tp xs).take 17).length = H12.length + 17 from List.length_append]
   exact ⟨ρL p (H12.length + 17), by ((repeat (apply Sub.cons; (· rfl))); exact Sub.nil), _, d, rfl, mk_iv (X := whlX H12.length c p.b p.t tp xs) (L := H12.length + 16) B12 kz12 hn ht h1 h2 hla12 hj t0 t1 (Nat.le_add_right _ _) (Nat.add_lt_add_left (Nat.le_of_ble_eq_true rfl) _) (Nat.le_of_ble_eq_true rfl) (whl_built (nz_len _ _).symm B12.ti B12.tb hcv updA_same updA_same) hla⟩
 ·rintro _ H' ⟨il, d, rfl, I⟩
  rw [stepFrom_len] at I
  refine hide fun Ψ kΨ => ?_
  obtain ⟨xs, ln, top, hB, gi, hx, hn, hl, ht, h1, h2, hj, hla⟩ := I
  refine kΨ ?_
  obtain rfl : d = 0 := by omega
  exact k il H' ⟨xs, ln, top, hB, gi, hx, hn, hl, ht, h1, h2, hj, hla⟩
theorem comp_vals {c : CF} {ok : MH → Bool} {H : MH} {ρ : Loc} {P : Nat → Nat → Prop} (hok : ok H = true) : ∀ (cs : List Nat) (s : Nat), (∀ (k a : Nat), cs[k]? = some a → ∃ v, attrOf H (.obj a) .k_value = some (.obj v) ∧ P (s + k) v) → ∃ vs : List Nat, compG (fun a H => evE c (put .k_one a ρ) (.attr (.loc .k_one) .k_value) H) ok (cs.map V.obj) H = some (vs.map V.obj, H) ∧ vs.length = cs.length ∧ ∀ (k v : Nat), vs[k]? = some v → P (s + k) v
 | [], s, _ => ⟨[], if_pos hok, rfl, fun k v h => by cases h⟩
 | a :: cs, s, h => by
  refine hide fun Ψ kΨ => ?_
  obtain ⟨v, h1, h2⟩ := h 0 a rfl
  obtain ⟨vs, e, hl, hv⟩ := comp_vals (c := c) (ρ := ρ) (P := P) hok cs (s + 1) (fun k a' hk => by
   have := h (k + 1) a' hk
   rwa [Nat.add_right_comm])
  refine kΨ ?_
  refine ⟨v :: vs, ?_, congrArg (· + 1) hl, fun k w hw => ?_⟩
  ·have e1 : evE c (put .k_one (.obj a) ρ) (.attr (.loc .k_one) .k_value) H = some (.obj v, H) := by
    show o2 (o1 (get .k_one (put .k_one (V.obj a) ρ)) fun v => some (v, H)) _ = _
    rw [get_put2, if_pos rfl]
    show o1 (attrOf H (.obj a) .k_value) _ = _
    rw [h1]; rfl
   show (if ok H = true then o2 (evE c (put .k_one (.obj a) ρ) _ H) _ else none) = _
   rw [if_pos hok, e1]
   exact congrArg (fun o => o2 o fun l H => some (V.obj v :: l, H)) e
  ·cases k with
   | zero => cases hw; exact h2
   | succ k =>
    have := hv k w hw
    rwa [Nat.add_right_comm] at this
theorem wx_vals {c : CF} {ρ : Loc} {cl : Nat} {H : MH} {cs : List Nat} {Q : V → MH → Prop} {P : Nat → Nat → Prop} (hρ : get .k_counters ρ = some (.obj cl)) (hcl : H[cl]? = some (.list (cs.map V.obj))) (hlen : cs.length ≤ 1000) (hcv : ∀ (k a : Nat), cs[k]? = some a → ∃ v, attrOf H (.obj a) .k_value = some (.obj v) ∧ P k v)
  (k : ∀ vs : List Nat, vs.length = cs.length → (∀ (k v : Nat), vs[k]? = some v → P k v) → Q (.obj H.length) (H ++ [.list (vs.map V.obj)])) : WX c (.comp (.attr (.loc .k_one) .k_value) .k_one (.loc .k_counters)) ρ H Q := ⟨fun ρ2 hρ2 => by
 refine hide fun Ψ kΨ => ?_
 obtain ⟨vs, e, hl, hv⟩ := comp_vals (c := c) (ρ := ρ2) (P := P) (okV_of hcl hcl) cs 0 (fun k a h => by rw [Nat.zero_add]; exact hcv k a h)
 refine kΨ ?_
 refine ⟨_, _, ?_, k vs hl fun k v h => by
  have := hv k v h
  rwa [Nat.zero_add] at this⟩
 show o1 (get .k_counters ρ2) _ = _
 rw [hρ2 _ _ hρ]
 show o1 H[cl]? _ = _
 rw [hcl]
 show (if (cs.map V.obj).length ≤ 1000 then o2 (compG _ (okV H (.obj cl)) (cs.map V.obj) H) _ else none) = _
 rw [if_pos (by rw [List.length_map]; exact hlen), e]; rfl⟩
theorem Nest.nodes {C : Ctx} {d : Nat} {xs : List Nat} (h : Nest C d xs) : ∀ i, d ≤ i → i < C.cnt → ∃ op val ks, Nd C.B (C.ln i) op val ks := by
 induction h with
 | base _ => exact fun i h1 h2 => (Nat.not_lt.mpr h1 h2).elim
 | @loop d ys xs hd _ hs ih =>
  intro i h1 h2
  if h : i = d then
   subst h
   cases hs with
   | for_ hf => obtain ⟨c, z, tp, blk, b1, _⟩ := hf; exact ⟨_, _, _, b1⟩
   | whl hf => obtain ⟨tst, blk, stp, cs, k1, b1, _⟩ := hf; exact ⟨_, _, _, b1⟩
  else exact ih i (Nat.lt_of_le_of_ne h1 (Ne.symm h)) h2
noncomputable def PH (H : MH) (o lo : Nat) (bd : V) (X : MH) : MH := H ++ (.inst .k_ProcTree [(.k_obj, .obj o), (.k_params, .obj (H.length + 1)), (.k_locals, .obj lo), (.k_procs, .obj (H.length + 3)), (.k_body, bd), (.k_result, .none), (.k_level, .int 1)] :: X)
theorem PH_lo (H : MH) (o lo : Nat) (bd : V) (X : MH) (l : Nat) : setAttrV (PH H o lo bd X) (.obj H.length) .k_locals (.obj l) = some (PH H o l bd X) := set_new rfl
theorem PH_body (H : MH) (o lo : Nat) (bd : V) (X : MH) (nd : O) (b : V) : setAttrV (PH H o lo bd X ++ [nd]) (.obj H.length) .k_body b = some (PH H o lo b (X ++ [nd])) := by
 rw [show PH H o lo bd X ++ [nd] = PH H o lo bd (X ++ [nd]) from List.append_assoc _ _ _]; exact set_new rfl
theorem PH_len (H : MH) (o lo : Nat) (bd : V) (X : MH) : (PH H o lo bd X).length = H.length + (X.length + 1) := List.length_append
noncomputable def pX (vs : List Nat) (vt vk : Nat) : MH := [.list [], .list [], .list [], .list (vs.map V.obj), .list [.obj vt, .obj vk], .list (vs.map V.obj ++ [.obj vt, .obj vk])]
noncomputable abbrev ρP (p : Pk) (il ki pr : Nat) : Loc := ρL p il ++ [(.k_kind, .obj ki), (.k_proc, .obj pr)]
inductive Rdy (p : Pk) (pr : Nat) (top : Nat → Int) (H : MH) : Prop
 | mk (ln : Nat → Nat) (body : Nat) (objs xs : List Nat) (tr : Tree H p.cnt p.el ln top pr body objs xs) (bd : BeadAt H) (ls : ListAt H p.ns) (ad : IsAdd H p.ad p.cnt) (hl : H[p.la]? = some (.list (topsV top 0 p.cnt))) : Rdy p pr top H
theorem seg_proc (n : Nat) {p : Pk} {il : Nat} {H : MH} {Q : Fl → Loc → MH → Prop} (hc : 1 ≤ p.cnt ∧ p.cnt ≤ 7) (hcs : p.cs.length = p.cnt) (I : Iv p 0 p.cnt il H)
  (k : ∀ H' ki pr top, Rdy p pr top H' → wS (cf (n + 2)) (drp 19 LB) (ρP p il ki pr) H' Q) : wS (cf (n + 2)) (drp 14 LB) (ρL p il) H Q := by
 obtain ⟨xs, ln, top, hB, gi, hx, hn, hl, ht, h1, h2, hj, hla⟩ := I
 have B := hB.kp (Kp.un H)
 have gi := (Kp.un (b := true) H).gt _ _ gi (good_objs _ _)
 have hn := Nest.pv (C := ⟨nz p.la H, 0, 0, 0, p.el, p.cnt, zeroF, ln, top⟩) (C' := ⟨H, 0, 0, 0, p.el, p.cnt, zeroF, ln, top⟩) (Kp.un (b := true) H).pv rfl rfl (fun _ _ => ⟨rfl, rfl⟩) hn
 obtain ⟨G, num, e1, k1, ty⟩ := new_type n B.ty .k_proc 4
 have k2 := tyH_kp true G num .k_proc 4 (.obj p.nn) 0
 have ty' := ty.kp (tyH_kp true G num .k_proc 4 .none 0)
 obtain ⟨fs, num', y1, y2, y3, y4, y5, y6⟩ := ty'
 have kc := k1.trans k2.weak
 have Bc := B.kpF kc (ty.kp k2)
 refine w_seg 2 [fm (meth_new B.ty), fc e1, fv (attr_s y1 y6), fh (tyH_base G num .k_proc 4 .none 0 (.obj p.nn))] (y := (.next, ρL p il ++ [(.k_kind, .obj G.length)], tyH G num .k_proc 4 (.obj p.nn) 0)) (by kernel_rfl) ?_
 generalize tyH G num .k_proc 4 (.obj p.nn) 0 = Hc at kc Bc
 generalize G.length = ki
 have ed := n_Obj (n + 1) Hc .k_P .k_proc (.obj ki) 0
 have kd := Kp.app true Hc [objI .k_P .k_proc (.obj ki) 0 0 .k_empty 0]
 have gd := app_new Hc (objI .k_P .k_proc (.obj ki) 0 0 .k_empty 0)
 generalize Hc ++ [objI .k_P .k_proc (.obj ki) 0 0 .k_empty 0] = Hd at ed kd gd
 generalize Hc.length = o at ed gd
 have Bd := Bc.kp kd
 have kd := kc.trans kd.weak
 refine w_seg 1 [fc ed, fc (n_ProcTree (n + 1) Hd gd)] (y := (.next, ρP p il ki Hd.length, PH Hd o (Hd.length + 2) .none [.list [], .list [], .list []])) (by kernel_rfl) ?_
 have ke : ∀ lo bd X, Kp true Hd (PH Hd o lo bd X) := fun lo bd X => .app _ _ _
 have Be := Bd.kp (ke (Hd.length + 2) .none [.list [], .list [], .list []])
 refine wx_vals (ρ := ρP p il ki Hd.length) (P := fun k v => ∃ nm, Hd[v]? = some (objO nm (.obj p.t) (k : Int))) rfl Be.cl (by omega) (fun k a h => by
  obtain ⟨kl, v, nm, c1, c2, _⟩ := Bd.cv k a h
  exact ⟨v, attr_s (app_get c1) rfl, nm, c2⟩) fun vs hvl hvs => ?_
 obtain ⟨kt, vt, nt, t1, t2, _⟩ := Bd.tv
 obtain ⟨kk, vk, nk, q1, q2, _⟩ := Bd.kv
 have gl := app_new (PH Hd o (Hd.length + 2) .none [.list [], .list [], .list []]) (O.list (vs.map V.obj))
 have eq : PH Hd o (Hd.length + 2) .none [.list [], .list [], .list []] ++ [.list (vs.map V.obj)] ++ [.list [.obj vt, .obj vk]] ++ [.list (vs.map V.obj ++ [.obj vt, .obj vk])] = PH Hd o (Hd.length + 2) .none (pX vs vt vk) := by
  unfold PH
  rw [List.append_assoc, List.append_assoc, List.append_assoc]; rfl
 have el : (PH Hd o (Hd.length + 2) .none [.list [], .list [], .list []] ++ [O.list (vs.map V.obj)] ++ [O.list [.obj vt, .obj vk]]).length = Hd.length + 6 := by
  rw [List.length_append, List.length_append, PH_len]; rfl
 have es := PH_lo Hd o (Hd.length + 2) .none (pX vs vt vk) (Hd.length + 6)
 rw [← eq, ← el] at es
 refine WO.s (attr_s (app_get (app_get t1)) rfl) (WO.s (attr_s (app_get (app_get q1)) rfl) (W2.s (add_l (app_get gl) (app_new _ _) (by rw [List.length_map, hvl, hcs]; exact Nat.le_trans (Nat.add_le_add_right hc.2 2) (Nat.le_of_ble_eq_true rfl))) (WO.s es ?_)))
 rw [el]
 have eb := PH_body Hd o (Hd.length + 6) .none (pX vs vt vk) (nodeO .k_block 11 .none il .none false) (.obj (PH Hd o (Hd.length + 6) .none (pX vs vt vk)).length)
 refine w_seg 1 [fc (n_Node4 (n + 1) (PH Hd o (Hd.length + 6) .none (pX vs vt vk)) .k_block 11 .none il), fh eb] (y := (.next, ρP p il ki Hd.length, PH Hd o (Hd.length + 6) (.obj (PH Hd o (Hd.length + 6) .none (pX vs vt vk)).length) (pX vs vt vk ++ [nodeO .k_block 11 .none il .none false]))) (by kernel_rfl) ?_
 rw [PH_len]
 have kz := ke (Hd.length + 6) (.obj (Hd.length + 7)) (pX vs vt vk ++ [nodeO .k_block 11 .none il .none false])
 have kb := kd.trans kz.weak
 have Bz := Bd.kp kz
 show wS (cf (n + 2)) (drp 19 LB) (ρP p il ki Hd.length) (PH Hd o (Hd.length + 6) (.obj (Hd.length + 7)) (pX vs vt vk ++ [nodeO .k_block 11 .none il .none false])) Q
 refine k _ ki _ top ⟨ln, Hd.length + 7, vs ++ [vt, vk], xs, ⟨hc, Bz.el, ht, fun d hd => ?_, fun d d' a b e => ?_, ⟨_, Hd.length + 3, Hd.length + 1, Hd.length + 6, ap_get0 Hd _, rfl, rfl, rfl, rfl, rfl, rfl, ap_get Hd _ 3, ap_get Hd _ 1, (ap_get Hd _ 6).trans ?_⟩, ⟨?_, fun k v hk => ?_⟩, ⟨11, .none, il, false, ap_get Hd _ 7, kb.gt _ _ gi (good_objs _ _)⟩, Nest.pv (C := ⟨H, 0, 0, 0, p.el, p.cnt, zeroF, ln, top⟩) (C' := ⟨_, 0, 0, 0, p.el, p.cnt, zeroF, ln, top⟩) kb.pv rfl rfl (fun _ _ => ⟨rfl, rfl⟩) hn⟩, Bz.bd, Bz.ls, Bz.ad, kb.gt _ _ (by rw [Nat.zero_add] at hj; exact hj ▸ hl) (good_tops _ _ _ _)⟩
 ·obtain ⟨op, val, ks, h⟩ := hn.nodes d (Nat.zero_le _) hd
  exact ⟨op, val, ks, kb.nd h⟩
 ·rcases Nat.lt_trichotomy d d' with h | h | h
  ·exact (Nat.ne_of_gt (h1 d d' (Nat.zero_le _) h b) e).elim
  ·exact h
  ·exact (Nat.ne_of_lt (h1 d' d (Nat.zero_le _) h a) e).elim
 ·exact congrArg (fun l => some (O.list l)) (List.map_append (l₁ := vs) (l₂ := [vt, vk]) (f := V.obj)).symm
 ·rw [List.length_append, hvl, hcs]; rfl
 ·rw [List.getElem?_append] at hk
  rw [← hcs, ← hvl]
  if h : k < vs.length then
   rw [if_pos h] at hk
   obtain ⟨nm, w⟩ := hvs k v hk
   exact ⟨nm, p.t, app_get w, by rw [if_pos (Nat.le_of_lt h)]; exact Bz.ti⟩
  else
   rw [if_neg h] at hk
   obtain ⟨j, rfl⟩ : ∃ j, k = vs.length + j := ⟨k - vs.length, by omega⟩
   rw [Nat.add_sub_cancel_left] at hk
   rw [← hcs, ← hvl] at t2 q2
   match j, hk with
   | 0, hk => cases hk; exact ⟨nt, p.t, app_get t2, by rw [if_pos (show vs.length + 0 ≤ vs.length from Nat.le_refl _)]; exact Bz.ti⟩
   | 1, hk => cases hk; exact ⟨nk, p.row, app_get q2, by rw [if_neg (show ¬ vs.length + 1 ≤ vs.length from Nat.not_le.mpr (Nat.lt_succ_self _))]; exact Bz.rt⟩
theorem nth_tops {top : Nat → Int} {k j : Nat} (h : k < j) : nth (topsV top 0 j) (k : Int) = some (.int (top k)) := by
 refine (if_pos (Int.natCast_nonneg k)).trans ?_
 unfold topsV
 rw [Int.toNat_natCast, List.getElem?_map, List.getElem?_range' h, Nat.one_mul, Nat.zero_add]; rfl
theorem ne_iv {H : MH} {x : IV} {a : Int} (h : x = (a, a)) : cmpV H .ne (iv x) (.pair (.int a) (.int a)) = some false := by
 subst h
 show some (!(decide (a = a) && decide (a = a))) = _
 rw [decide_eq_true rfl]; rfl
theorem eq_bool {H : MH} (b : Bool) : cmpV H .eq (.bool b) (.bool b) = some true := by cases b <;> rfl
theorem resE_ok {C : Ctx} (hc : 1 ≤ C.cnt) (ht : ∀ i, 0 ≤ C.top i ∧ C.top i ≤ 6) : (∀ i, i < C.cnt → (resE C i).1 ≤ C.top i + 1 ∧ C.top i + 1 ≤ (resE C i).2) ∧ (resE C C.cnt).1 ≤ 0 ∧ (resE C C.cnt).2 = 2147483647 := by
 unfold resE
 refine ⟨fun i hi => ?_, ?_⟩
 ·have h := ht i
  if h0 : i = 0 then subst h0; rw [if_pos rfl]; exact ⟨Int.le_refl _, Int.le_refl _⟩
  else
   rw [if_neg h0, if_neg (by omega)]
   if h1 : i = 1 then subst h1; rw [if_pos rfl]; exact ⟨(by omega), Int.le_refl _⟩
   else
    rw [if_neg h1]
    if h2 : i = 2 then rw [if_pos h2]; exact ⟨(show (0 : Int) ≤ _ by omega), (show _ ≤ (2147483647 : Int) by omega)⟩
    else rw [if_neg h2]; exact ⟨(show (-2147483648 : Int) ≤ _ by omega), (show _ ≤ (2147483647 : Int) by omega)⟩
 ·rw [if_neg (show ¬ C.cnt = 0 by omega)]
  if h1 : C.cnt = 1 then rw [if_pos h1]; exact ⟨Int.le_refl _, rfl⟩
  else
   rw [if_neg h1, if_neg h1]
   if h2 : C.cnt = 2 then rw [if_pos h2]; exact ⟨Int.le_refl _, rfl⟩
   else rw [if_neg h2]; exact ⟨of_decide_eq_true rfl, rfl⟩
noncomputable def P7 : Nat → Int
 | 0 => 1
 | n + 1 => 7 * P7 n
theorem P7_pos : ∀ n, 1 ≤ P7 n
 | 0 => Int.le_refl _
 | n + 1 => by have := P7_pos n; show 1 ≤ 7 * P7 n; omega
theorem P7_le {n : Nat} (h : n ≤ 7) : P7 n ≤ 823543 := by
 have : ∀ k n, n + k = 7 → P7 n ≤ 823543 := fun k => by
  induction k with
  | zero => rintro n rfl; exact of_decide_eq_true rfl
  | succ k ih =>
   intro n h
   have h1 := ih (n + 1) (by omega)
   have h2 := P7_pos n
   have h1 : 7 * P7 n ≤ 823543 := h1
   omega
 exact this (7 - n) n (by omega)
theorem turn_le {tr t q : Int} (h1 : 1 ≤ tr) (h2 : tr ≤ q) (t0 : 0 ≤ t) (t6 : t ≤ 6) : 1 ≤ tr * (t + 1) ∧ tr * (t + 1) ≤ 7 * q := by
 constructor
 ·exact Int.mul_le_mul (a := 1) (b := 1) h1 (by omega) (by decide) (by omega)
 ·rw [Int.mul_comm]
  exact Int.mul_le_mul (by omega) h2 (by omega) (by decide)
noncomputable abbrev ρT (p : Pk) (il ki pr ea : Nat) (tr : Int) : Loc := ρP p il ki pr ++ [(.k_env, .obj ea), (.k_turns, .int tr)]
theorem seg_end (n : Nat) {p : Pk} {il ki pr : Nat} {top : Nat → Int} {H : MH} (R : Rdy p pr top H) : wS (cf (n + 109)) (drp 19 LB) (ρP p il ki pr) H (endQ fun v H' => v = .bool true ∧ BeadAt H' ∧ ListAt H' p.ns) := by
 refine hide fun Ψ kΨ => ?_
 obtain ⟨ln, body, objs, xs, T, bd, ls, ad, hl⟩ := R
 have hc := T.hc
 have ht := T.htop
 obtain ⟨ea, Hl, e1, he, x, su⟩ := c_analyse (n + 9) T
 obtain ⟨rE, rC⟩ := resE_ok (C := ⟨H, 0, 0, 0, p.el, p.cnt, zeroF, ln, top⟩) hc.1 ht
 have rE0 : resE ⟨H, 0, 0, 0, p.el, p.cnt, zeroF, ln, top⟩ 0 = (top 0 + 1, top 0 + 1) := if_pos rfl
 have rE : ∀ i, i < p.cnt → (resE ⟨H, 0, 0, 0, p.el, p.cnt, zeroF, ln, top⟩ i).1 ≤ top i + 1 ∧ top i + 1 ≤ (resE ⟨H, 0, 0, 0, p.el, p.cnt, zeroF, ln, top⟩ i).2 := rE
 have rC : (resE ⟨H, 0, 0, 0, p.el, p.cnt, zeroF, ln, top⟩ p.cnt).1 ≤ 0 ∧ (resE ⟨H, 0, 0, 0, p.el, p.cnt, zeroF, ln, top⟩ p.cnt).2 = 2147483647 := rC
 have hM1 : markB ⟨H, 0, 0, 0, p.el, p.cnt, zeroF, ln, top⟩ = true → ¬ top (p.cnt - 1) > 4 := fun h => by
  unfold markB at h
  dsimp only at h
  split at h
  ·exact Int.not_lt.mpr (of_decide_eq_true h)
  ·cases h
 have hM2 : p.cnt ≤ 2 → decide (top (p.cnt - 1) < 5) = markB ⟨H, 0, 0, 0, p.el, p.cnt, zeroF, ln, top⟩ := fun h => by
  unfold markB
  dsimp only
  rw [if_pos h]
  exact decide_eq_decide.mpr (Int.lt_add_one_iff (a := top (p.cnt - 1)) (b := 4))
 generalize markB ⟨H, 0, 0, 0, p.el, p.cnt, zeroF, ln, top⟩ = M at su hM1 hM2
 generalize resE ⟨H, 0, 0, 0, p.el, p.cnt, zeroF, ln, top⟩ = E at he rE rC rE0
 have hl := x.get hl rfl
 obtain ⟨_, _, _, _, sa, _, _, ad, _⟩ := ad.ext x
 obtain ⟨op, pl, ty, kl, val, su⟩ := su
 refine kΨ ?_
 have hls : ListAt Hl p.ns := x.get ls rfl
 have hbd : BeadAt Hl := by obtain ⟨j, h⟩ := bd; exact ⟨j, x.get h rfl⟩
 have t0 := nth_tops (top := top) (k := 0) hc.1
 have htl : nth (topsV top 0 p.cnt) (-1) = some (.int (top (p.cnt - 1))) := nth_last (m := p.cnt - 1) (by unfold topsV; rw [List.getElem?_map, List.getElem?_range' (by omega), Nat.one_mul, Nat.zero_add]; rfl) (by unfold topsV; rw [List.length_map, List.length_range']; omega)
 refine w_seg 3 [fc e1, fv (sub_d he (get_dctL E (Nat.succ_pos _))), fv (sub_l hl t0), fv (sub_l hl t0), ft (ne_iv (H := Hl) rE0)] (y := (.next, ρT p il ki pr ea 1, Hl)) (by kernel_rfl) ?_
 apply wl_rangeI
 refine ⟨_, rangeV_one (b := (p.cnt : Int)) (by omega) (by omega), fun k ρ H' => ∃ tr, ρT p il ki pr ea tr = ρ ∧ Hl = H' ∧ 1 ≤ tr ∧ tr ≤ P7 k, ⟨1, rfl, rfl, Int.le_refl _, Int.le_refl _⟩, fun _ _ _ _ => rfl, ?_, ?_⟩
 ·rintro k v hv _ _ ⟨tr, rfl, rfl, r1, r2⟩
  refine hide fun Ψ kΨ => ?_
  obtain ⟨hk, rfl⟩ := range_get hv
  rw [Int.toNat_natCast] at hk
  have tk := ht k
  obtain ⟨s1, s2⟩ := turn_le r1 r2 tk.1 tk.2
  refine kΨ ?_
  have h7 := P7_le (n := k) (by omega)
  have hk1 := sub_l hl (nth_tops hk)
  have hd := sub_d he (get_dctL E (Nat.lt_succ_of_lt hk))
  have hb := rE k hk
  have hm : binV .mul (.int tr) (.int (top k + 1)) Hl = some (.int (tr * (top k + 1)), Hl) := if_pos (e := none) ⟨by omega, by omega⟩
  refine WO.s hk1 (W2.s hm (WO.s hd (WO.s hk1 (wIf_dt hb.1 (WO.s hd (wIf_f (show (!decide (top k + 1 ≤ (E k).2)) = false by rw [decide_eq_true hb.2]; rfl) ⟨ρT p il ki pr ea (tr * (top k + 1)), ?_, _, rfl, rfl, s1, s2⟩))))))
  ((repeat (apply Sub.cons; (· rfl))); exact Sub.nil)
 ·rintro _ _ ⟨tr, rfl, rfl, r1, r2⟩
  rw [stepFrom_len, Int.toNat_natCast] at r2
  have h7 := P7_le hc.2
  have cm := cf_min (n + 108) tr 2147483647 Hl
  rw [show min tr 2147483647 = tr by omega] at cm
  have hd := sub_d he (get_dctL E (Nat.lt_succ_self p.cnt))
  have hle := sub_l hl htl
  have s1 : attrOf Hl (.obj p.el) .k_sure = some (.bool M) := attr_s su rfl
  have fin : wS (cf (n + 109)) (drp 25 LB) (ρT p il ki pr ea tr) Hl (endQ fun v H' => v = .bool true ∧ BeadAt H' ∧ ListAt H' p.ns) := by
   if h2 : p.cnt ≤ 2 then
    exact w_ret [fb (decide_eq_false (show ¬ (p.cnt : Int) > 2 by omega)), fv s1, fv hle, fb (hM2 h2), ft (eq_bool (H := Hl) M)] (by kernel_rfl) rfl ⟨rfl, hbd, hls⟩
   else
    exact w_ret [fb (decide_eq_true (show (p.cnt : Int) > 2 by omega))] (by kernel_rfl) rfl ⟨rfl, hbd, hls⟩
  refine w_seg 1 [fv hd, fc cm, fb (decide_eq_true (show (E p.cnt).1 ≤ tr by omega)), fc cm, fv hd, fb (decide_eq_true (show tr ≤ (E p.cnt).2 by omega))] (y := (.next, ρT p il ki pr ea tr, Hl)) (by kernel_rfl) ?_
  have s2 : attrOf Hl (.obj p.ad) .k_sure = some (.bool sa) := attr_s ad rfl
  cases M with
  | true =>
   cases sa with
   | true => exact w_seg 1 [fv s1, fv hle, fb (decide_eq_false (hM1 rfl)), fv s2, fb (decide_eq_false (show ¬ tr > 2147483647 by omega))] (y := (.next, ρT p il ki pr ea tr, Hl)) (by kernel_rfl) fin
   | false => exact w_seg 1 [fv s1, fv hle, fb (decide_eq_false (hM1 rfl)), fv s2] (y := (.next, ρT p il ki pr ea tr, Hl)) (by kernel_rfl) fin
  | false =>
   cases sa with
   | true => exact w_seg 1 [fv s1, fv s2, fb (decide_eq_false (show ¬ tr > 2147483647 by omega))] (y := (.next, ρT p il ki pr ea tr, Hl)) (by kernel_rfl) fin
   | false => exact w_seg 1 [fv s1, fv s2] (y := (.next, ρT p il ki pr ea tr, Hl)) (by kernel_rfl) fin
theorem wO_i {α : Type} {o : Option α} {a : α} {Q : α → Prop} (h : o = some a) (k : Q a) : wO o Q := by subst h; exact k
theorem c_loops (n : Nat) {H : MH} {ns : List Int} (hb : BeadAt H) (hl : ListAt H ns) : ∃ v H', cf (n + 110) (.g .k_law_loops_right) [.obj 1] H = some (v, H') ∧ v = .bool true ∧ BeadAt H' ∧ ListAt H' ns := by
 refine cl_run (ρ := [(.k_string_of, .obj 1)]) (P := fun v H' => v = .bool true ∧ BeadAt H' ∧ ListAt H' ns) rfl rfl rfl ?_
 refine hide fun Ψ kΨ => ?_
 obtain ⟨H1, e1, k1, t, b, nn, ty, ti, tb, _⟩ := n_Types (n + 106) H
 obtain ⟨c, H2, e2, c0, c1, k2⟩ := c_bead (n + 107) (lim := 7) (by decide) (k1.bd hb) (hl.kp k1)
 obtain ⟨cnt, hcn⟩ : ∃ cnt : Nat, 1 + c = (cnt : Int) := ⟨(1 + c).toNat, by omega⟩
 obtain ⟨fs, num, y1, y2, y3, y4, y5, y6⟩ := id ty
 refine kΨ ?_
 refine w_seg 3 [fc e1, fv (attr_s y1 y4), fc e2] (y := (.next, [(.k_string_of, .obj 1), (.k_types, .obj H.length), (.k_t, .obj t), (.k_count, .int (1 + c))], H2)) (by kernel_rfl) ?_
 rw [hcn]
 have hc : 1 ≤ cnt ∧ cnt ≤ 7 := by omega
 refine wx_range (wO_i (rangeV_one (b := (cnt : Int)) (by omega) (by omega)) ?_)
 rw [Int.toNat_natCast]
 refine vars_w (n := n + 107) (t := t) cnt 0 H2 fun cs H3 p3 hl3 hc3 => ?_
 have k3 := (Kp.pre (b := true) p3).trans (Kp.app true H3 [.list (cs.map V.obj)])
 have k13 := k1.trans (k2.trans k3).weak
 have g3 := app_new H3 (O.list (cs.map V.obj))
 refine seg_row (n + 107) (T := H.length) (t := t) (cl := H3.length) (cnt := (cnt : Int)) ((ty.kp k2).kp k3) fun H4 row k4 ty4 rt4 => ?_
 have k24 := (k2.trans k3).weak.trans k4
 refine seg_mid (n + 107) (ns := ns) hc.1 ((k13.trans k4).bd hb) (hl.kp (k13.trans k4)) ty4 (IsInt.kp k24 ⟨_, ti⟩) (tb.kp k24) (k4.gt _ _ g3 (good_objs _ _)) hl3 (fun k a h => by
  have := hc3 k a h
  rw [Nat.zero_add] at this
  exact (this.kp (Kp.app false H3 [.list (cs.map V.obj)])).kp k4) rt4 fun tot ka el ad la il H5 I => ?_
 exact seg_loop (n + 107) hc.2 hl3 I fun il H6 I => seg_proc (n + 107) hc hl3 I fun H7 ki pr top R => seg_end n R
noncomputable def lawS : S := .seq (.ret (.and (.call (.glob .k_law_loops_right) (.cons (.loc .k_string_of) .nil)) (.call (.glob .k_law_conditions_right) (.cons (.loc .k_string_of) .nil)))) .nil
theorem lawMini (ns : List Int) (h : ns.length ≤ 63) : ∃ ρ' H', evS (callF fnTab clsTab 110) lawS [(.k_string_of, .obj 1)] [.list (ns.map .int), .list [.obj 0, .int 0]] = some (.ret (.bool true), ρ', H') := by
 refine hide fun Ψ kΨ => ?_
 obtain ⟨v, H1, e1, rfl, b1, l1⟩ := c_loops 0 (H := [.list (ns.map .int), .list [.obj 0, .int 0]]) (ns := ns) ⟨0, rfl⟩ rfl
 obtain ⟨v, H2, e2, rfl⟩ := c_cond 60 b1 l1
 have w : wS (cf 110) lawS [(.k_string_of, .obj 1)] [.list (ns.map .int), .list [.obj 0, .int 0]] fun fl _ _ => fl = .ret (.bool true) := W2.s e1 (W2.s e2 rfl)
 obtain ⟨⟨fl, ρ', H'⟩, e, _, _, q⟩ := wS_s lawS (Sub.refl _) w
 refine kΨ ?_
 dsimp only at q
 subst q
 rw [cf_eq] at e
 exact ⟨ρ', H', e⟩
end
end Mine
open PySem PySem.W PyProof.Rows PySem.Calls Mine
theorem PySem.Challenge.cw_pq0770_02_holds : PySem.Challenge.rw_pq0770_02.Holds := by
 refine holds_law h_said fun said => ?_
 refine holds_open (q := hq) (loose := []) (Xt := hXt) (XP := XL hq []) (Yf := hH.obs) (Ya := hH.val) (YP := hH.says) (N := 8000) h_left hH.of hH.keeps (fun s e => xl_of s (Bool.and_eq_true_iff.mp e).1) XL.keeps (by rfl) (by rfl) (by rfl)
  (fun s e => recFacts_of (Bool.and_eq_true_iff.mp e).2) (by rfl) said h_ok h_bare h_prom ?_
 clear said
 intro w s₀ s₁ mg mb G Y fa o pm cd doc dV kV ho hd hcd hD hmg hg args vals as hpre hlay hrd hwl hlo
 have KX := kIn_of Y
 refine Ground.open G ?_
 intro T B D TE TW
 obtain ⟨_, _, M⟩ := bmod_of_top T
 have TA := at_of_top T
 try (obtain ⟨_, _, he, B0⟩ := based_of_top T rfl hmg ho hd; have he' : cd = _ := he; subst he'; clear he)
 clear hmg
 wrow_args hpre hlay hrd hwl hlo
 first | refine callC_kw (enter_call ?_) | refine enter_call ?_ | refine callC_kw (enter_callW ?_) | refine enter_callW ?_
 w_top on
 try refine codeAny_mono ?_ (fun _ _ g => GoodW.toG g)
 have K0 := below_caller (Top.heap T)
 w_call any ho hd hcd hD T F
 refine Mine.law_run (ω := ⟨PySem.Challenge.rw_pq0770_02.row.prog, _, Mine.K _, _⟩) (x := .k_string_of) (X := Mine.lawS) (r := 110) ⟨by assumption, (by assumption : Top _ _ _ _ _ _).nolimit, ⟨_, (by assumption : Top _ _ _ _ _ _).g⟩, ⟨_, (by assumption : Top _ _ _ _ _ _).b, (by assumption : Top _ _ _ _ _ _).builtins⟩⟩ (Mine.tab _) (Mine.tabR _) (Mine.tabF _) ⟨rfl, Nat.le_of_ble_eq_true (by kernel_rfl), Nat.le_of_ble_eq_true (by kernel_rfl)⟩ (by assumption) rfl (by assumption) (by assumption) (by omega) rfl rfl rfl rfl rfl (by decide) (by kernel_rfl) rfl (of_map (o := trSs _ _) (by kernel_rfl)) (Mine.lawMini _ (by omega)) ?_
 intro h2 tk m2 F2
 refine goodW_bool F2 (by assumption) ?_ ?_
 ·first | (intro cls; rfl) | (intro cls; kernel_rfl) | (intro cls; cases cls <;> rfl)
 ·first | rfl | kernel_rfl
