import PyProof.Rows.All
import Wide.All
import OpenK.AllK
import Wide.FinOn
import Lean
import PySem.Challenge.RW_sz0078_01
set_option Elab.async false
set_option maxRecDepth 100000
set_option autoImplicit false
set_option genInjectivity false
set_option genSizeOf false
set_option maxHeartbeats 0
set_option linter.all false
namespace Mine
open PySem PySem.W PySem.Calls PyProof.Rows Builtin
theorem Nb {a b : Nat} (h : Nat.ble a b = true) : a ≤ b := Nat.le_of_ble_eq_true h
theorem Gs {α : Type} {l : List α} {i : Nat} {a : α} (h : l[i]? = some a) : ∃ h : i < l.length, l[i] = a := List.getElem?_eq_some_iff.mp h
section
noncomputable abbrev PP : Program := PySem.Challenge.pw_sz0078_01
noncomputable def fdOf : Option Stmt → Arguments × List Stmt × Scope
 | some (.FunctionDef _ a b _ _ _ s _ _ _) => (a, b, s)
 | _ => (⟨[], [], none, [], [], none, []⟩, [], { kind := .function, names := [], isGenerator := false, isCoroutine := false })
noncomputable def clOf : Option Stmt → List Stmt
 | some (.ClassDef _ _ _ b _ _ _ _ _ _ _) => b
 | _ => []
noncomputable def DF (i : Nat) : Arguments × List Stmt × Scope := fdOf PP.main.body[i]?
noncomputable def DM (i j : Nat) : Arguments × List Stmt × Scope := fdOf (clOf PP.main.body[i]?)[j]?
noncomputable def sv (x : String) (t : Nat) : Value := .str (Str.ofString x) t
noncomputable def de (P : Params) (x : String) (t : Nat) (v : Value) : DictEntry := { hash := PyData.keyHash P (Str.ofString x), key := sv x t, val := v }
noncomputable def cO (n : String) (a : Nat) (q : String) (b c : Nat) (l r f : Int) (v w : Nat) (x y : Value) (z : Nat) (u : Int) (t : Nat) : Obj := { cls := .type "code", data := .fields #[sv n a, sv q b, sv "/claim/cut.py" c, .int l 0, .int r 0, .int 0 0, .int 0 0, .int f 0, .ref v, .bool true, .int 181 0, .ref w, .none, x, y, .ref z, .int u 0, .int l 0, sv "/claim/cut.py" t] }
noncomputable def fO (n q : String) (D : Arguments × List Stmt × Scope) (m : String) (t c : Nat) : Obj := { cls := .type "function", data := .func { name := Str.ofString n, qualname := Str.ofString q, params := D.1, body := .stmts D.2.1, scope := D.2.2, globals := 3, closure := [], defaults := .none, kwdefaults := .none, pyModule := sv m t, code := .ref c } }
noncomputable def k3 (P : Params) : Obj := { cls := .type "dict", data := .dict #[de P "__name__" 165 (sv "law_sz0078_01" 626), de P "__doc__" 166 .none, de P "__package__" 167 .none, de P "__loader__" 168 (.builtin "__main__.__loader__#opaque"), de P "__spec__" 169 .none, de P "__annotations__" 170 (.ref 6), de P "__builtins__" 171 (.ref 4), de P "__file__" 173 (sv "/claim/cut.py" 172), de P "__cached__" 174 .none, de P "Node" 222 (.ref 31), de P "nodes_of" 235 (.ref 42), de P "inner_nodes" 242 (.ref 49), de P "own_nodes" 252 (.ref 56), de P "add_once" 260 (.ref 63), de P "var_names" 271 (.ref 70), de P "function_decls" 277 (.ref 75), de P "last_decls" 283 (.ref 80), de P "named_in" 289 (.ref 85), de P "needs_arguments" 295 (.ref 90), de P "binding_names" 306 (.ref 97), de P "Binding" 341 (.ref 114), de P "Scope" 443 (.ref 184), de P "CatchScope" 509 (.ref 233), de P "look_up" 519 (.ref 244), de P "place_of" 531 (.ref 251), de P "read_names" 537 (.ref 256), de P "all_scopes" 547 (.ref 263), de P "mark_captured" 560 (.ref 270), de P "is_self_used" 570 (.ref 277), de P "give_place" 578 (.ref 284), de P "give_places" 588 (.ref 291), de P "index_among" 598 (.ref 298), de P "capture" 610 (.ref 305), de P "analyse" 625 (.ref 312), de P "_law_some" 633 (.ref 317), de P "_law_one" 648 (.ref 324), de P "_law_own" 661 (.ref 331), de P "_law_nodes" 667 (.ref 336), de P "_law_words" 678 (.ref 343), de P "_law_counts" 685 (.ref 350), de P "law" 691 (.ref 355)] 41 }
noncomputable def k27 := cO "__init__" 201 "Node.__init__" 202 203 4 4 3 22 23 (.ref 24) (.ref 25) 26 208 209
noncomputable def k28 := fO "__init__" "Node.__init__" (DM 1 0) "js.nodes" 187 27
noncomputable def k30 (P : Params) : Obj := { cls := .type "dict", data := .dict #[de P "__module__" 196 (sv "js.nodes" 187), de P "__firstlineno__" 200 (.int 2 199), de P "__init__" 210 (.ref 28), de P "__static_attributes__" 215 (.ref 29), de P "__dict__" 217 (.ref 32), de P "__weakref__" 219 (.ref 33), de P "__doc__" 220 .none] 4 }
noncomputable def k31 : Obj := { cls := .type "type", data := .cls { name := Str.ofString "Node", bases := [.type "object"], mro := [.ref 31, .type "object"], ns := 30, qualname := Str.ofString "Node" }, slots := #[none, none, some (sv "Node" 189), some (sv "Node" 197), some (.builtin "object.__new__"), some (.bool true)] }
noncomputable def k41 := cO "nodes_of" 225 "nodes_of" 226 227 10 1 3 36 37 (.ref 38) (.ref 39) 40 233 234
noncomputable def k42 := fO "nodes_of" "nodes_of" (DF 3) "js.hoists" 223 41
noncomputable def k48 := cO "inner_nodes" 236 "inner_nodes" 237 238 20 1 3 43 44 (.ref 45) (.ref 46) 47 240 241
noncomputable def k49 := fO "inner_nodes" "inner_nodes" (DF 4) "js.hoists" 223 48
noncomputable def k55 := cO "own_nodes" 243 "own_nodes" 244 245 22 1 3 50 51 (.ref 52) (.ref 53) 54 250 251
noncomputable def k56 := fO "own_nodes" "own_nodes" (DF 5) "js.hoists" 223 55
noncomputable def k62 := cO "add_once" 253 "add_once" 254 255 30 2 3 57 58 (.ref 59) (.ref 60) 61 258 259
noncomputable def k63 := fO "add_once" "add_once" (DF 6) "js.hoists" 223 62
noncomputable def k69 := cO "var_names" 261 "var_names" 262 263 33 1 3 64 65 (.ref 66) (.ref 67) 68 269 270
noncomputable def k70 := fO "var_names" "var_names" (DF 7) "js.hoists" 223 69
noncomputable def k74 := cO "function_decls" 272 "function_decls" 273 274 40 1 3 71 72 .none .none 73 275 276
noncomputable def k75 := fO "function_decls" "function_decls" (DF 8) "js.hoists" 223 74
noncomputable def k79 := cO "last_decls" 278 "last_decls" 279 280 42 1 3 76 77 .none .none 78 281 282
noncomputable def k80 := fO "last_decls" "last_decls" (DF 9) "js.hoists" 223 79
noncomputable def k84 := cO "named_in" 284 "named_in" 285 286 49 2 3 81 82 .none .none 83 287 288
noncomputable def k85 := fO "named_in" "named_in" (DF 10) "js.hoists" 223 84
noncomputable def k89 := cO "needs_arguments" 290 "needs_arguments" 291 292 51 2 3 86 87 .none .none 88 293 294
noncomputable def k90 := fO "needs_arguments" "needs_arguments" (DF 11) "js.hoists" 223 89
noncomputable def k96 := cO "binding_names" 296 "binding_names" 297 298 55 2 3 91 92 (.ref 93) (.ref 94) 95 304 305
noncomputable def k97 := fO "binding_names" "binding_names" (DF 12) "js.hoists" 223 96
noncomputable def k110 := cO "__init__" 321 "Binding.__init__" 322 323 69 3 3 105 106 (.ref 107) (.ref 108) 109 327 328
noncomputable def k111 := fO "__init__" "Binding.__init__" (DM 14 0) "js.scopes" 307 110
noncomputable def k113 (P : Params) : Obj := { cls := .type "dict", data := .dict #[de P "__module__" 316 (sv "js.scopes" 307), de P "__firstlineno__" 320 (.int 67 319), de P "__init__" 329 (.ref 111), de P "__static_attributes__" 334 (.ref 112), de P "__dict__" 336 (.ref 115), de P "__weakref__" 338 (.ref 116), de P "__doc__" 339 .none] 4 }
noncomputable def k114 : Obj := { cls := .type "type", data := .cls { name := Str.ofString "Binding", bases := [.type "object"], mro := [.ref 114, .type "object"], ns := 113, qualname := Str.ofString "Binding" }, slots := #[none, none, some (sv "Binding" 309), some (sv "Binding" 317), some (.builtin "object.__new__"), some (.bool true)] }
noncomputable def k129 := cO "__init__" 354 "Scope.__init__" 355 356 76 3 3 126 127 .none .none 128 357 358
noncomputable def k130 := fO "__init__" "Scope.__init__" (DM 15 0) "js.scopes" 307 129
noncomputable def k136 := cO "declare" 360 "Scope.declare" 361 362 101 1 3 131 132 (.ref 133) (.ref 134) 135 366 367
noncomputable def k137 := fO "declare" "Scope.declare" (DM 15 1) "js.scopes" 307 136
noncomputable def k143 := cO "function" 369 "Scope.function" 370 371 108 1 3 138 139 (.ref 140) (.ref 141) 142 373 374
noncomputable def k144 := fO "function" "Scope.function" (DM 15 2) "js.scopes" 307 143
noncomputable def k150 := cO "binding" 376 "Scope.binding" 377 378 111 2 3 145 146 (.ref 147) (.ref 148) 149 381 382
noncomputable def k151 := fO "binding" "Scope.binding" (DM 15 3) "js.scopes" 307 150
noncomputable def k157 := cO "find" 384 "Scope.find" 385 386 118 2 3 152 153 (.ref 154) (.ref 155) 156 389 390
noncomputable def k158 := fO "find" "Scope.find" (DM 15 4) "js.scopes" 307 157
noncomputable def k164 := cO "is_constant" 392 "Scope.is_constant" 393 394 121 2 3 159 160 (.ref 161) (.ref 162) 163 398 399
noncomputable def k165 := fO "is_constant" "Scope.is_constant" (DM 15 5) "js.scopes" 307 164
noncomputable def k171 := cO "self_place" 401 "Scope.self_place" 402 403 125 1 3 166 167 (.ref 168) (.ref 169) 170 405 406
noncomputable def k172 := fO "self_place" "Scope.self_place" (DM 15 6) "js.scopes" 307 171
noncomputable def k173 : Obj := { cls := .type "property", data := .fields #[.ref 172, .none, .none, .none, sv "self_place" 408, .bool false] }
noncomputable def k179 := cO "arguments_place" 409 "Scope.arguments_place" 410 411 129 1 3 174 175 (.ref 176) (.ref 177) 178 413 414
noncomputable def k180 := fO "arguments_place" "Scope.arguments_place" (DM 15 7) "js.scopes" 307 179
noncomputable def k181 : Obj := { cls := .type "property", data := .fields #[.ref 180, .none, .none, .none, sv "arguments_place" 416, .bool false] }
noncomputable def k183 (P : Params) : Obj := { cls := .type "dict", data := .dict #[de P "__module__" 349 (sv "js.scopes" 307), de P "__firstlineno__" 353 (.int 74 352), de P "__init__" 359 (.ref 130), de P "declare" 368 (.ref 137), de P "function" 375 (.ref 144), de P "binding" 383 (.ref 151), de P "find" 391 (.ref 158), de P "is_constant" 400 (.ref 165), de P "self_place" 408 (.ref 173), de P "arguments_place" 416 (.ref 181), de P "__static_attributes__" 436 (.ref 182), de P "__dict__" 438 (.ref 185), de P "__weakref__" 440 (.ref 186), de P "__doc__" 441 .none] 4 }
noncomputable def k184 : Obj := { cls := .type "type", data := .cls { name := Str.ofString "Scope", bases := [.type "object"], mro := [.ref 184, .type "object"], ns := 183, qualname := Str.ofString "Scope" }, slots := #[none, none, some (sv "Scope" 342), some (sv "Scope" 350), some (.builtin "object.__new__"), some (.bool true)] }
noncomputable def k201 := cO "__init__" 456 "CatchScope.__init__" 457 458 134 3 3 196 197 (.ref 198) (.ref 199) 200 462 463
noncomputable def k202 := fO "__init__" "CatchScope.__init__" (DM 16 0) "js.scopes" 307 201
noncomputable def k208 := cO "function" 465 "CatchScope.function" 466 467 141 1 3 203 204 (.ref 205) (.ref 206) 207 469 470
noncomputable def k209 := fO "function" "CatchScope.function" (DM 16 1) "js.scopes" 307 208
noncomputable def k215 := cO "binding" 472 "CatchScope.binding" 473 474 144 2 3 210 211 (.ref 212) (.ref 213) 214 477 478
noncomputable def k216 := fO "binding" "CatchScope.binding" (DM 16 2) "js.scopes" 307 215
noncomputable def k222 := cO "find" 480 "CatchScope.find" 481 482 147 2 3 217 218 (.ref 219) (.ref 220) 221 485 486
noncomputable def k223 := fO "find" "CatchScope.find" (DM 16 3) "js.scopes" 307 222
noncomputable def k229 := cO "is_constant" 488 "CatchScope.is_constant" 489 490 150 2 3 224 225 (.ref 226) (.ref 227) 228 494 495
noncomputable def k230 := fO "is_constant" "CatchScope.is_constant" (DM 16 4) "js.scopes" 307 229
noncomputable def k232 (P : Params) : Obj := { cls := .type "dict", data := .dict #[de P "__module__" 451 (sv "js.scopes" 307), de P "__firstlineno__" 455 (.int 132 454), de P "__init__" 464 (.ref 202), de P "function" 471 (.ref 209), de P "binding" 479 (.ref 216), de P "find" 487 (.ref 223), de P "is_constant" 496 (.ref 230), de P "__static_attributes__" 502 (.ref 231), de P "__dict__" 504 (.ref 234), de P "__weakref__" 506 (.ref 235), de P "__doc__" 507 .none] 4 }
noncomputable def k233 : Obj := { cls := .type "type", data := .cls { name := Str.ofString "CatchScope", bases := [.type "object"], mro := [.ref 233, .type "object"], ns := 232, qualname := Str.ofString "CatchScope" }, slots := #[none, none, some (sv "CatchScope" 444), some (sv "CatchScope" 452), some (.builtin "object.__new__"), some (.bool true)] }
noncomputable def k243 := cO "look_up" 510 "look_up" 511 512 153 2 3 238 239 (.ref 240) (.ref 241) 242 517 518
noncomputable def k244 := fO "look_up" "look_up" (DF 17) "js.scopes" 307 243
noncomputable def k250 := cO "place_of" 520 "place_of" 521 522 163 2 3 245 246 (.ref 247) (.ref 248) 249 529 530
noncomputable def k251 := fO "place_of" "place_of" (DF 18) "js.scopes" 307 250
noncomputable def k255 := cO "read_names" 532 "read_names" 533 534 173 1 3 252 253 .none .none 254 535 536
noncomputable def k256 := fO "read_names" "read_names" (DF 19) "js.scopes" 307 255
noncomputable def k262 := cO "all_scopes" 538 "all_scopes" 539 540 197 1 3 257 258 (.ref 259) (.ref 260) 261 545 546
noncomputable def k263 := fO "all_scopes" "all_scopes" (DF 20) "js.scopes" 307 262
noncomputable def k269 := cO "mark_captured" 548 "mark_captured" 549 550 204 2 3 264 265 (.ref 266) (.ref 267) 268 558 559
noncomputable def k270 := fO "mark_captured" "mark_captured" (DF 21) "js.scopes" 307 269
noncomputable def k276 := cO "is_self_used" 561 "is_self_used" 562 563 213 2 3 271 272 (.ref 273) (.ref 274) 275 568 569
noncomputable def k277 := fO "is_self_used" "is_self_used" (DF 22) "js.scopes" 307 276
noncomputable def k283 := cO "give_place" 571 "give_place" 572 573 218 2 3 278 279 (.ref 280) (.ref 281) 282 576 577
noncomputable def k284 := fO "give_place" "give_place" (DF 23) "js.scopes" 307 283
noncomputable def k290 := cO "give_places" 579 "give_places" 580 581 225 2 3 285 286 (.ref 287) (.ref 288) 289 586 587
noncomputable def k291 := fO "give_places" "give_places" (DF 24) "js.scopes" 307 290
noncomputable def k297 := cO "index_among" 589 "index_among" 590 591 234 2 3 292 293 (.ref 294) (.ref 295) 296 596 597
noncomputable def k298 := fO "index_among" "index_among" (DF 25) "js.scopes" 307 297
noncomputable def k304 := cO "capture" 599 "capture" 600 601 239 2 3 299 300 (.ref 301) (.ref 302) 303 608 609
noncomputable def k305 := fO "capture" "capture" (DF 26) "js.scopes" 307 304
noncomputable def k311 := cO "analyse" 611 "analyse" 612 613 250 1 3 306 307 (.ref 308) (.ref 309) 310 623 624
noncomputable def k312 := fO "analyse" "analyse" (DF 27) "js.scopes" 307 311
noncomputable def k316 := cO "_law_some" 628 "_law_some" 629 630 264 3 3 313 314 .none .none 315 631 632
noncomputable def k317 := fO "_law_some" "_law_some" (DF 29) "law_sz0078_01" 626 316
noncomputable def k323 := cO "_law_one" 634 "_law_one" 635 636 266 3 3 318 319 (.ref 320) (.ref 321) 322 646 647
noncomputable def k324 := fO "_law_one" "_law_one" (DF 30) "law_sz0078_01" 626 323
noncomputable def k330 := cO "_law_own" 649 "_law_own" 650 651 281 1 3 325 326 (.ref 327) (.ref 328) 329 659 660
noncomputable def k331 := fO "_law_own" "_law_own" (DF 31) "law_sz0078_01" 626 330
noncomputable def k335 := cO "_law_nodes" 662 "_law_nodes" 663 664 291 5 3 332 333 .none .none 334 665 666
noncomputable def k336 := fO "_law_nodes" "_law_nodes" (DF 32) "law_sz0078_01" 626 335
noncomputable def k342 := cO "_law_words" 668 "_law_words" 669 670 313 1 3 337 338 (.ref 339) (.ref 340) 341 676 677
noncomputable def k343 := fO "_law_words" "_law_words" (DF 33) "law_sz0078_01" 626 342
noncomputable def k349 := cO "_law_counts" 679 "_law_counts" 680 681 320 1 3 344 345 (.ref 346) (.ref 347) 348 683 684
noncomputable def k350 := fO "_law_counts" "_law_counts" (DF 34) "law_sz0078_01" 626 349
noncomputable def k354 := cO "law" 686 "law" 687 688 322 1 3 351 352 .none .none 353 689 690
noncomputable def k355 := fO "law" "law" (DF 35) "law_sz0078_01" 626 354
noncomputable def KF (P : Params) : Frag := [(3, k3 P), (27, k27), (28, k28), (30, k30 P), (31, k31), (41, k41), (42, k42), (48, k48), (49, k49), (55, k55), (56, k56), (62, k62), (63, k63), (69, k69), (70, k70), (74, k74), (75, k75), (79, k79), (80, k80), (84, k84), (85, k85), (89, k89), (90, k90), (96, k96), (97, k97), (110, k110), (111, k111), (113, k113 P), (114, k114), (129, k129), (130, k130), (136, k136), (137, k137), (143, k143), (144, k144), (150, k150), (151, k151), (157, k157), (158, k158), (164, k164), (165, k165), (171, k171), (172, k172), (173, k173), (179, k179), (180, k180), (181, k181), (183, k183 P), (184, k184), (201, k201), (202, k202), (208, k208), (209, k209), (215, k215), (216, k216), (222, k222), (223, k223), (229, k229), (230, k230), (232, k232 P), (233, k233), (243, k243), (244, k244), (250, k250), (251, k251), (255, k255), (256, k256), (262, k262), (263, k263), (269, k269), (270, k270), (276, k276), (277, k277), (283, k283), (284, k284), (290, k290), (291, k291), (297, k297), (298, k298), (304, k304), (305, k305), (311, k311), (312, k312), (316, k316), (317, k317), (323, k323), (324, k324), (330, k330), (331, k331), (335, k335), (336, k336), (342, k342), (343, k343), (349, k349), (350, k350), (354, k354), (355, k355)]
noncomputable def KA : List Addr := [3, 27, 28, 30, 31, 41, 42, 48, 49, 55, 56, 62, 63, 69, 70, 74, 75, 79, 80, 84, 85, 89, 90, 96, 97, 110, 111, 113, 114, 129, 130, 136, 137, 143, 144, 150, 151, 157, 158, 164, 165, 171, 172, 173, 179, 180, 181, 183, 184, 201, 202, 208, 209, 215, 216, 222, 223, 229, 230, 232, 233, 243, 244, 250, 251, 255, 256, 262, 263, 269, 270, 276, 277, 283, 284, 290, 291, 297, 298, 304, 305, 311, 312, 316, 317, 323, 324, 330, 331, 335, 336, 342, 343, 349, 350, 354, 355]
theorem KFA : ∀ P, KA = (KF P).map (·.1) := fun U => rfl
end
section
noncomputable abbrev RLaw : OpenLaw := PySem.Challenge.rw_sz0078_01
noncomputable abbrev RR : OpenRow := RLaw.row
noncomputable def qq : Program := view PP [1, 3, 4, 5, 6, 7, 8, 9, 10, 11, 12, 14, 15, 16, 17, 18, 19, 20, 21, 22, 23, 24, 25, 26, 27, 29, 30, 31, 32, 33, 34, 35]
noncomputable def lo : List Str := [Str.ofString "Scope"]
noncomputable def HH : Hook := kHook KF KA KFA
theorem left0x : LeftO PP qq lo (fun s => xlAt qq [] s && recOk (RowW.records RR.toRowW) s) (Hook.obs HH) (Hook.val HH) 4688 := by
 intro w
 unfold openEnds topFrom
 rw [PySem.W.Fast.te14082659384304107361, PySem.W.Fast.te4187177175401517315, PySem.W.Fast.te5923862056798008813, PySem.W.Fast.te14364793385576792824]
 kernel_rfl
end
section
noncomputable def dkL : DefRec × List (Str × Expr) := (defOf qq (Str.ofString "law")).getD (⟨"", ⟨[], [], none, [], [], none, []⟩, [], ⟨.function, [], false, false, []⟩, ⟨0, 0, 0, 0⟩⟩, [])
theorem dk_of : defOf qq RR.name = some (dkL.1, dkL.2) := by kernel_rfl
theorem dk_p : RR.prog.theDef RR.name = some (dkL.1.params, dkL.1.body, dkL.1.scope) := by kernel_rfl
theorem dk_k : kwWritten? dkL.1.params.kwonlyargs dkL.1.params.kw_defaults = some dkL.2 := by kernel_rfl
theorem dk_n : dkL.1.name = Str.ofString "law" := by kernel_rfl
theorem wsaid : PySem.Challenge.rw_sz0078_01.wellSaid = true := by
 rw [PySem.W.Fast.te9446332074065402090]
 kernel_rfl
end
section
theorem nn {α : Type} {p : Prop} {a : α} (h : none = some a) : p := nomatch h
theorem sn {α : Type} {p : Prop} {a : α} (h : some a = none) : p := nomatch h
theorem tf {p : Prop} (h : true = false) : p := nomatch h
theorem ft {p : Prop} (h : false = true) : p := nomatch h
theorem si {α : Type} {a b : α} (h : some a = some b) : a = b := Option.some.inj h
theorem xe02 {A0 A1 : Prop} {b : Prop} (h : A0 ∧ A1) (k : A0 → A1 → b) : b := k h.1 h.2
theorem xe03 {A0 A1 A2 : Prop} {b : Prop} (h : A0 ∧ A1 ∧ A2) (k : A0 → A1 → A2 → b) : b := k h.1 h.2.1 h.2.2
theorem xe04 {A0 A1 A2 A3 : Prop} {b : Prop} (h : A0 ∧ A1 ∧ A2 ∧ A3) (k : A0 → A1 → A2 → A3 → b) : b := k h.1 h.2.1 h.2.2.1 h.2.2.2
theorem xe05 {A0 A1 A2 A3 A4 : Prop} {b : Prop} (h : A0 ∧ A1 ∧ A2 ∧ A3 ∧ A4) (k : A0 → A1 → A2 → A3 → A4 → b) : b := k h.1 h.2.1 h.2.2.1 h.2.2.2.1 h.2.2.2.2
theorem xe06 {A0 A1 A2 A3 A4 A5 : Prop} {b : Prop} (h : A0 ∧ A1 ∧ A2 ∧ A3 ∧ A4 ∧ A5) (k : A0 → A1 → A2 → A3 → A4 → A5 → b) : b := k h.1 h.2.1 h.2.2.1 h.2.2.2.1 h.2.2.2.2.1 h.2.2.2.2.2
theorem xe07 {A0 A1 A2 A3 A4 A5 A6 : Prop} {b : Prop} (h : A0 ∧ A1 ∧ A2 ∧ A3 ∧ A4 ∧ A5 ∧ A6) (k : A0 → A1 → A2 → A3 → A4 → A5 → A6 → b) : b := k h.1 h.2.1 h.2.2.1 h.2.2.2.1 h.2.2.2.2.1 h.2.2.2.2.2.1 h.2.2.2.2.2.2
theorem xe08 {A0 A1 A2 A3 A4 A5 A6 A7 : Prop} {b : Prop} (h : A0 ∧ A1 ∧ A2 ∧ A3 ∧ A4 ∧ A5 ∧ A6 ∧ A7) (k : A0 → A1 → A2 → A3 → A4 → A5 → A6 → A7 → b) : b := k h.1 h.2.1 h.2.2.1 h.2.2.2.1 h.2.2.2.2.1 h.2.2.2.2.2.1 h.2.2.2.2.2.2.1 h.2.2.2.2.2.2.2
theorem xe11 {α0 : Type} {A0 : α0 → Prop} {b : Prop} (h : ∃ x0, A0 x0) (k : ∀ x0, A0 x0 → b) : b := h.elim fun x0 h => k x0 h
theorem xe12 {α0 : Type} {A0 A1 : α0 → Prop} {b : Prop} (h : ∃ x0, A0 x0 ∧ A1 x0) (k : ∀ x0, A0 x0 → A1 x0 → b) : b := h.elim fun x0 h => k x0 h.1 h.2
theorem xe13 {α0 : Type} {A0 A1 A2 : α0 → Prop} {b : Prop} (h : ∃ x0, A0 x0 ∧ A1 x0 ∧ A2 x0) (k : ∀ x0, A0 x0 → A1 x0 → A2 x0 → b) : b := h.elim fun x0 h => k x0 h.1 h.2.1 h.2.2
theorem xe14 {α0 : Type} {A0 A1 A2 A3 : α0 → Prop} {b : Prop} (h : ∃ x0, A0 x0 ∧ A1 x0 ∧ A2 x0 ∧ A3 x0) (k : ∀ x0, A0 x0 → A1 x0 → A2 x0 → A3 x0 → b) : b := h.elim fun x0 h => k x0 h.1 h.2.1 h.2.2.1 h.2.2.2
theorem xe21 {α0 α1 : Type} {A0 : α0 → α1 → Prop} {b : Prop} (h : ∃ x0 x1, A0 x0 x1) (k : ∀ x0 x1, A0 x0 x1 → b) : b := h.elim fun x0 h => h.elim fun x1 h => k x0 x1 h
theorem xe22 {α0 α1 : Type} {A0 A1 : α0 → α1 → Prop} {b : Prop} (h : ∃ x0 x1, A0 x0 x1 ∧ A1 x0 x1) (k : ∀ x0 x1, A0 x0 x1 → A1 x0 x1 → b) : b := h.elim fun x0 h => h.elim fun x1 h => k x0 x1 h.1 h.2
theorem xe23 {α0 α1 : Type} {A0 A1 A2 : α0 → α1 → Prop} {b : Prop} (h : ∃ x0 x1, A0 x0 x1 ∧ A1 x0 x1 ∧ A2 x0 x1) (k : ∀ x0 x1, A0 x0 x1 → A1 x0 x1 → A2 x0 x1 → b) : b := h.elim fun x0 h => h.elim fun x1 h => k x0 x1 h.1 h.2.1 h.2.2
theorem xe25 {α0 α1 : Type} {A0 A1 A2 A3 A4 : α0 → α1 → Prop} {b : Prop} (h : ∃ x0 x1, A0 x0 x1 ∧ A1 x0 x1 ∧ A2 x0 x1 ∧ A3 x0 x1 ∧ A4 x0 x1) (k : ∀ x0 x1, A0 x0 x1 → A1 x0 x1 → A2 x0 x1 → A3 x0 x1 → A4 x0 x1 → b) : b := h.elim fun x0 h => h.elim fun x1 h => k x0 x1 h.1 h.2.1 h.2.2.1 h.2.2.2.1 h.2.2.2.2
theorem xe34 {α0 α1 α2 : Type} {A0 A1 A2 A3 : α0 → α1 → α2 → Prop} {b : Prop} (h : ∃ x0 x1 x2, A0 x0 x1 x2 ∧ A1 x0 x1 x2 ∧ A2 x0 x1 x2 ∧ A3 x0 x1 x2) (k : ∀ x0 x1 x2, A0 x0 x1 x2 → A1 x0 x1 x2 → A2 x0 x1 x2 → A3 x0 x1 x2 → b) : b := h.elim fun x0 h => h.elim fun x1 h => h.elim fun x2 h => k x0 x1 x2 h.1 h.2.1 h.2.2.1 h.2.2.2
theorem xe35 {α0 α1 α2 : Type} {A0 A1 A2 A3 A4 : α0 → α1 → α2 → Prop} {b : Prop} (h : ∃ x0 x1 x2, A0 x0 x1 x2 ∧ A1 x0 x1 x2 ∧ A2 x0 x1 x2 ∧ A3 x0 x1 x2 ∧ A4 x0 x1 x2) (k : ∀ x0 x1 x2, A0 x0 x1 x2 → A1 x0 x1 x2 → A2 x0 x1 x2 → A3 x0 x1 x2 → A4 x0 x1 x2 → b) : b := h.elim fun x0 h => h.elim fun x1 h => h.elim fun x2 h => k x0 x1 x2 h.1 h.2.1 h.2.2.1 h.2.2.2.1 h.2.2.2.2
theorem xe36 {α0 α1 α2 : Type} {A0 A1 A2 A3 A4 A5 : α0 → α1 → α2 → Prop} {b : Prop} (h : ∃ x0 x1 x2, A0 x0 x1 x2 ∧ A1 x0 x1 x2 ∧ A2 x0 x1 x2 ∧ A3 x0 x1 x2 ∧ A4 x0 x1 x2 ∧ A5 x0 x1 x2) (k : ∀ x0 x1 x2, A0 x0 x1 x2 → A1 x0 x1 x2 → A2 x0 x1 x2 → A3 x0 x1 x2 → A4 x0 x1 x2 → A5 x0 x1 x2 → b) : b := h.elim fun x0 h => h.elim fun x1 h => h.elim fun x2 h => k x0 x1 x2 h.1 h.2.1 h.2.2.1 h.2.2.2.1 h.2.2.2.2.1 h.2.2.2.2.2
theorem xe43 {α0 α1 α2 α3 : Type} {A0 A1 A2 : α0 → α1 → α2 → α3 → Prop} {b : Prop} (h : ∃ x0 x1 x2 x3, A0 x0 x1 x2 x3 ∧ A1 x0 x1 x2 x3 ∧ A2 x0 x1 x2 x3) (k : ∀ x0 x1 x2 x3, A0 x0 x1 x2 x3 → A1 x0 x1 x2 x3 → A2 x0 x1 x2 x3 → b) : b := h.elim fun x0 h => h.elim fun x1 h => h.elim fun x2 h => h.elim fun x3 h => k x0 x1 x2 x3 h.1 h.2.1 h.2.2
theorem xe44 {α0 α1 α2 α3 : Type} {A0 A1 A2 A3 : α0 → α1 → α2 → α3 → Prop} {b : Prop} (h : ∃ x0 x1 x2 x3, A0 x0 x1 x2 x3 ∧ A1 x0 x1 x2 x3 ∧ A2 x0 x1 x2 x3 ∧ A3 x0 x1 x2 x3) (k : ∀ x0 x1 x2 x3, A0 x0 x1 x2 x3 → A1 x0 x1 x2 x3 → A2 x0 x1 x2 x3 → A3 x0 x1 x2 x3 → b) : b := h.elim fun x0 h => h.elim fun x1 h => h.elim fun x2 h => h.elim fun x3 h => k x0 x1 x2 x3 h.1 h.2.1 h.2.2.1 h.2.2.2
theorem xe46 {α0 α1 α2 α3 : Type} {A0 A1 A2 A3 A4 A5 : α0 → α1 → α2 → α3 → Prop} {b : Prop} (h : ∃ x0 x1 x2 x3, A0 x0 x1 x2 x3 ∧ A1 x0 x1 x2 x3 ∧ A2 x0 x1 x2 x3 ∧ A3 x0 x1 x2 x3 ∧ A4 x0 x1 x2 x3 ∧ A5 x0 x1 x2 x3) (k : ∀ x0 x1 x2 x3, A0 x0 x1 x2 x3 → A1 x0 x1 x2 x3 → A2 x0 x1 x2 x3 → A3 x0 x1 x2 x3 → A4 x0 x1 x2 x3 → A5 x0 x1 x2 x3 → b) : b := h.elim fun x0 h => h.elim fun x1 h => h.elim fun x2 h => h.elim fun x3 h => k x0 x1 x2 x3 h.1 h.2.1 h.2.2.1 h.2.2.2.1 h.2.2.2.2.1 h.2.2.2.2.2
theorem xe52 {α0 α1 α2 α3 α4 : Type} {A0 A1 : α0 → α1 → α2 → α3 → α4 → Prop} {b : Prop} (h : ∃ x0 x1 x2 x3 x4, A0 x0 x1 x2 x3 x4 ∧ A1 x0 x1 x2 x3 x4) (k : ∀ x0 x1 x2 x3 x4, A0 x0 x1 x2 x3 x4 → A1 x0 x1 x2 x3 x4 → b) : b := h.elim fun x0 h => h.elim fun x1 h => h.elim fun x2 h => h.elim fun x3 h => h.elim fun x4 h => k x0 x1 x2 x3 x4 h.1 h.2
theorem xe55 {α0 α1 α2 α3 α4 : Type} {A0 A1 A2 A3 A4 : α0 → α1 → α2 → α3 → α4 → Prop} {b : Prop} (h : ∃ x0 x1 x2 x3 x4, A0 x0 x1 x2 x3 x4 ∧ A1 x0 x1 x2 x3 x4 ∧ A2 x0 x1 x2 x3 x4 ∧ A3 x0 x1 x2 x3 x4 ∧ A4 x0 x1 x2 x3 x4) (k : ∀ x0 x1 x2 x3 x4, A0 x0 x1 x2 x3 x4 → A1 x0 x1 x2 x3 x4 → A2 x0 x1 x2 x3 x4 → A3 x0 x1 x2 x3 x4 → A4 x0 x1 x2 x3 x4 → b) : b := h.elim fun x0 h => h.elim fun x1 h => h.elim fun x2 h => h.elim fun x3 h => h.elim fun x4 h => k x0 x1 x2 x3 x4 h.1 h.2.1 h.2.2.1 h.2.2.2.1 h.2.2.2.2
theorem xe62 {α0 α1 α2 α3 α4 α5 : Type} {A0 A1 : α0 → α1 → α2 → α3 → α4 → α5 → Prop} {b : Prop} (h : ∃ x0 x1 x2 x3 x4 x5, A0 x0 x1 x2 x3 x4 x5 ∧ A1 x0 x1 x2 x3 x4 x5) (k : ∀ x0 x1 x2 x3 x4 x5, A0 x0 x1 x2 x3 x4 x5 → A1 x0 x1 x2 x3 x4 x5 → b) : b := h.elim fun x0 h => h.elim fun x1 h => h.elim fun x2 h => h.elim fun x3 h => h.elim fun x4 h => h.elim fun x5 h => k x0 x1 x2 x3 x4 x5 h.1 h.2
theorem ns {α : Type} {o : Option α} {a : α} (h : o = some a) : o ≠ none := h ▸ Option.some_ne_none a
theorem none_ne {α : Type} {a : α} {P : Prop} (h : none = some a) : P := absurd h.symm (Option.some_ne_none a)
inductive MV where
 | none | bool (b : Bool) | int (i : Int) | str (s : Str) | ref (a : Addr) | type (n : String) | builtin (id : String) | other
noncomputable def MV.of : Value → MV
 | .none => .none
 | .bool b => .bool b
 | .int i _ => .int i
 | .str s _ => .str s
 | .ref a => .ref a
 | .type n => .type n
 | .builtin i => .builtin i
 | _ => .other
noncomputable def MV.hok : MV → Bool
 | .builtin _ => false
 | .other => false
 | _ => true
theorem MV.hok_handed {v : Value} (h : (MV.of v).hok = true) : handedIn v = true := by
 cases v <;> first | rfl | exact ft h
inductive IK where
 | list (l : Addr) (i : Nat)
 | tuple (l : Addr) (i : Nat)
 | rev (l : Addr) (i : Int)
 | keys (d : Addr) (i n ep : Nat)
 | range (x left step : Int)
 | enum (it : Addr) (i : Int)
 | trev (l : Addr) (i : Int)
noncomputable def IK.at_ (h : Heap) (a : Addr) : IK → Prop
 | .list l i => h.IsListIter a l i
 | .tuple l i => h.IsTupleIter a l i
 | .rev l i => h.IsRevIter a l i
 | .keys d i n ep => h.IsKeyIter a d i n ep
 | .range x left step => IsRangeIter h a x left step
 | .enum it i => ∃ old, IsEnum h a it i old
 | .trev l i => h.get? a = some { cls := .type "reversed", data := .fields #[.ref l, rawInt i] }
inductive MO where
 | list (xs : List MV)
 | tuple (xs : List MV)
 | dict (es : List (Str × MV)) (ep : Nat)
 | it (k : IK)
 | inst (C : Addr) (fs : List (Str × MV))
 | ns (m : Str → Option MV)
 | cell (v : Option MV)
 | raw (o : Obj)
noncomputable def MO.isInst : MO → Bool
 | .inst .. => true
 | _ => false
noncomputable abbrev Sto := Addr → Option MO
noncomputable def Sto.set (σ : Sto) (a : Addr) (o : MO) : Sto := fun b => if b = a then some o else σ b
theorem Sto.set_self (σ : Sto) (a : Addr) (o : MO) : σ.set a o a = some o := by simp [Sto.set]
theorem Sto.set_ne (σ : Sto) {a b : Addr} (o : MO) (h : b ≠ a) : σ.set a o b = σ b := by simp [Sto.set, h]
noncomputable def Sto.add (σ η : Sto) : Sto := fun a => (σ a).or (η a)
structure Cx where
 prog : Program
 w : World
 h₀ : Heap
 K : Frag
 mg : Str → Option Value
 mb : Str → Option Value
 p : Program
 loose : List Str
 mean : ExcName → Option Value
 gens : Array GenState
 os : OsState
 X : K.In h₀
 T : Top p loose mean mg mb h₀
noncomputable abbrev Cx.M (C : Cx) : Model := model C.prog C.w
noncomputable abbrev Cx.sk (C : Cx) : KeyKind C.prog C.w Str := strKind C.prog C.w
noncomputable def NsN (h : Heap) (a : Addr) (m : Str → Option Value) (n : Nat) : Prop :=
 ∃ o es ep, h.get? a = some o ∧ o.data = .dict es ep ∧ StrKeys es ∧ (∀ name, nsFind es name = m name) ∧ es.size = n
noncomputable def RepAt (C : Cx) (h : Heap) (d a : Addr) : MO → Prop
 | .list xs => ∃ its n, h.get? a = some (listOf its n) ∧ its.toList.map MV.of = xs
 | .tuple xs => ∃ its n, h.get? a = some ⟨.type "tuple", none, .seq its n, #[]⟩ ∧ its.toList.map MV.of = xs
 | .dict es ep => ∃ kvs, h.DictAt C.sk a kvs ep ∧ kvs.map (fun p => (p.1, MV.of p.2)) = es
 | .it k => k.at_ h a
 | .inst D fs => h.get? a = some (instObj D d) ∧ ∃ mA, NsN h d mA fs.length ∧ (∀ x, (mA x).map MV.of = fs.lookup x) ∧ fs.all (fun p => p.2.hok) = true
 | .ns m => ∃ mA, h.Ns a mA ∧ ∀ x, (mA x).map MV.of = m x
 | .cell v => ∃ v', h.IsCell a v' ∧ v'.map MV.of = v
 | .raw o => h.get? a = some o
theorem IK.ex {h : Heap} {a : Addr} (k : IK) (x : k.at_ h a) : ∃ ob, h.get? a = some ob := by
 cases k with
 | enum it i => obtain ⟨_, e⟩ := x; exact ⟨_, e⟩
 | range y l s => exact ⟨_, x⟩
 | trev y l => exact ⟨_, x⟩
 | _ => obtain ⟨_, e, _⟩ := x; exact ⟨_, e⟩
theorem IK.mv {h h' : Heap} {a : Addr} (k : IK) (e1 : ∀ ob, h.get? a = some ob → h'.get? a = some ob) (x : k.at_ h a) : k.at_ h' a := by
 cases k with
 | enum it i => obtain ⟨_, e⟩ := x; exact ⟨_, e1 _ e⟩
 | range y l s => exact e1 _ x
 | trev y l => exact e1 _ x
 | _ => obtain ⟨o, e, r⟩ := x; exact ⟨o, e1 _ e, r⟩
theorem RepAt.some {C : Cx} {h : Heap} {d a : Addr} {o : MO} (x : RepAt C h d a o) : ∃ ob, h.get? a = some ob := by
 cases o with
 | list xs => obtain ⟨_, _, e, _⟩ := x; exact ⟨_, e⟩
 | tuple xs => obtain ⟨_, _, e, _⟩ := x; exact ⟨_, e⟩
 | dict es ep => obtain ⟨_, ⟨o, es, e, _⟩, _⟩ := x; exact ⟨_, e⟩
 | it k => exact k.ex x
 | inst D fs => exact ⟨_, x.1⟩
 | ns m => obtain ⟨_, ⟨_, _, _, e, _⟩, _⟩ := x; exact ⟨_, e⟩
 | cell v => obtain ⟨_, ⟨_, e, _⟩, _⟩ := x; exact ⟨_, e⟩
 | raw o => exact ⟨_, x⟩
theorem RepAt.someD {C : Cx} {h : Heap} {d a D : Addr} {fs : List (Str × MV)} (x : RepAt C h d a (.inst D fs)) : ∃ ob, h.get? d = Option.some ob := by
 obtain ⟨_, _, ⟨_, _, _, e, _⟩, _⟩ := x; exact ⟨_, e⟩
theorem RepAt.mv {C : Cx} {h h' : Heap} {d a : Addr} {o : MO} (x : RepAt C h d a o) (e1 : ∀ ob, h.get? a = Option.some ob → h'.get? a = Option.some ob)
  (e2 : o.isInst = true → ∀ ob, h.get? d = Option.some ob → h'.get? d = Option.some ob) : RepAt C h' d a o := by
 cases o with
 | list xs => obtain ⟨its, n, e, r⟩ := x; exact ⟨its, n, e1 _ e, r⟩
 | tuple xs => obtain ⟨its, n, e, r⟩ := x; exact ⟨its, n, e1 _ e, r⟩
 | dict es ep => obtain ⟨kvs, ⟨o, es, e, r⟩, q⟩ := x; exact ⟨kvs, ⟨o, es, e1 _ e, r⟩, q⟩
 | it k => exact k.mv e1 x
 | inst D fs => obtain ⟨e, mA, ⟨o, es, ep, e', r⟩, q⟩ := x; exact ⟨e1 _ e, mA, ⟨o, es, ep, e2 rfl _ e', r⟩, q⟩
 | ns m => obtain ⟨mA, ⟨o, es, ep, e', r⟩, q⟩ := x; exact ⟨mA, ⟨o, es, ep, e1 _ e', r⟩, q⟩
 | cell v => obtain ⟨v', ⟨o, e, r⟩, q⟩ := x; exact ⟨v', ⟨o, e1 _ e, r⟩, q⟩
 | raw o => exact e1 _ x
structure St (C : Cx) (τ : Sto) (h : Heap) : Prop where
 keep : ∀ b o, C.h₀.get? b = some o → h.get? b = some o
 size : C.h₀.objs.size ≤ h.objs.size
 rep : ∃ δ : Addr → Addr, (∀ a o, τ a = some o → C.h₀.objs.size ≤ a ∧ RepAt C h (δ a) a o) ∧
  (∀ a D fs, τ a = some (.inst D fs) → C.h₀.objs.size ≤ δ a ∧ τ (δ a) = none ∧ ∀ b E gs, τ b = some (.inst E gs) → δ a = δ b → a = b)
section
variable {C : Cx} {τ : Sto} {h h' : Heap} {a : Addr} {o o' : MO}
theorem St.lt (x : St C τ h) (e : τ a = some o) : a < h.objs.size := by
 obtain ⟨δ, r, _⟩ := x.rep
 obtain ⟨ob, e'⟩ := (r a o e).2.some
 exact Heap.lt_size e'
theorem St.ge (x : St C τ h) (e : τ a = some o) : C.h₀.objs.size ≤ a := by
 obtain ⟨δ, r, _⟩ := x.rep
 exact (r a o e).1
theorem St.fresh (x : St C τ h) (e : h.objs.size ≤ a) : τ a = none := by
 cases q : τ a with
 | none => rfl
 | some o => exact absurd (x.lt q) (Nat.not_lt.mpr e)
theorem St.grow (x : St C τ h) (k : ∀ b ob, h.get? b = some ob → h'.get? b = some ob) (hs : h.objs.size ≤ h'.objs.size) : St C τ h' := by
 obtain ⟨δ, r1, r2⟩ := x.rep
 exact ⟨fun b ob e => k _ _ (x.keep b ob e), Nat.le_trans x.size hs, δ, fun a o e => ⟨(r1 a o e).1, (r1 a o e).2.mv (k _) fun U => k _⟩, r2⟩
theorem St.sub {τ' : Sto} (x : St C τ h) (k : ∀ a o, τ' a = some o → τ a = some o) : St C τ' h := by
 obtain ⟨δ, r1, r2⟩ := x.rep
 refine ⟨x.keep, x.size, δ, fun a o e => r1 a o (k a o e), fun a D fs e => ⟨(r2 a D fs (k _ _ e)).1, ?_, fun b E gs e' q => (r2 a D fs (k _ _ e)).2.2 b E gs (k _ _ e') q⟩⟩
 cases q : τ' (δ a) with
 | none => rfl
 | some o => have := k _ _ q; exact nn (((r2 a D fs (k _ _ e)).2.1).symm.trans this)
theorem St.set (x : St C τ h) (e : τ a = some o) (_ni : o.isInst = false) (ni' : o'.isInst = false) (hs : Heap.SameBut a h h') (r : ∀ d, RepAt C h' d a o') : St C (τ.set a o') h' := by
 obtain ⟨δ, r1, r2⟩ := x.rep
 refine ⟨fun b ob q => (hs.2 b ?_).trans (x.keep b ob q), hs.1 ▸ x.size, δ, fun b ob q => ?_, fun b D fs q => ?_⟩
 ·rintro rfl
  exact absurd (Heap.lt_size q) (Nat.not_lt.mpr (x.ge e))
 ·by_cases hb : b = a
  ·subst hb
   rw [Sto.set_self] at q; obtain rfl := si q
   exact ⟨(r1 _ _ e).1, r _⟩
  ·rw [Sto.set_ne _ _ hb] at q
   refine ⟨(r1 b ob q).1, (r1 b ob q).2.mv (fun U z => (hs.2 b hb).trans z) fun hi U z => (hs.2 _ fun w => ?_).trans z⟩
   cases ob <;> try exact ft hi
   rename_i D fs
   have := (r2 b D fs q).2.1
   rw [w, e] at this
   exact sn this
 ·by_cases hb : b = a
  ·subst hb
   rw [Sto.set_self] at q; obtain rfl := si q
   exact tf ni'
  ·rw [Sto.set_ne _ _ hb] at q
   have z := r2 b D fs q
   refine ⟨z.1, ?_, fun c E gs q' w => ?_⟩
   ·rw [Sto.set_ne]
    ·exact z.2.1
    ·intro w; have := z.2.1; rw [w, e] at this; exact sn this
   ·by_cases hc : c = a
    ·subst hc
     rw [Sto.set_self] at q'; obtain rfl := si q'
     exact tf ni'
    ·rw [Sto.set_ne _ _ hc] at q'
     exact z.2.2 c E gs q' w
theorem St.new (x : St C τ h) (k : ∀ b ob, h.get? b = some ob → h'.get? b = some ob) (hs : h.objs.size ≤ h'.objs.size) (ha : h.objs.size ≤ a) (ni' : o'.isInst = false) (r : ∀ d, RepAt C h' d a o') : St C (τ.set a o') h' := by
 have y := x.grow k hs
 have hn := x.fresh ha
 obtain ⟨δ, r1, r2⟩ := x.rep
 have lt : ∀ b D fs, τ b = some (.inst D fs) → δ b < h.objs.size := fun b D fs q => by
  obtain ⟨ob, e⟩ := (r1 b _ q).2.someD
  exact Heap.lt_size e
 refine ⟨y.keep, y.size, δ, fun b ob q => ?_, fun b D fs q => ?_⟩
 ·by_cases hb : b = a
  ·subst hb
   rw [Sto.set_self] at q; obtain rfl := si q
   exact ⟨Nat.le_trans x.size ha, r _⟩
  ·rw [Sto.set_ne _ _ hb] at q
   exact ⟨(r1 b ob q).1, (r1 b ob q).2.mv (k _) fun U => k _⟩
 ·by_cases hb : b = a
  ·subst hb
   rw [Sto.set_self] at q; obtain rfl := si q
   exact tf ni'
  ·rw [Sto.set_ne _ _ hb] at q
   have z := r2 b D fs q
   refine ⟨z.1, ?_, fun c E gs q' w => ?_⟩
   ·rw [Sto.set_ne]
    ·exact z.2.1
    ·intro w; exact absurd (show a < h.objs.size from w ▸ lt b D fs q) (Nat.not_lt.mpr ha)
   ·by_cases hc : c = a
    ·subst hc
     rw [Sto.set_self] at q'; obtain rfl := si q'
     exact tf ni'
    ·rw [Sto.set_ne _ _ hc] at q'
     exact z.2.2 c E gs q' w
theorem St.over {ν : Sto} (x : St C τ h) (k : ∀ b ob, h.get? b = some ob → h'.get? b = some ob) (hs : h.objs.size ≤ h'.objs.size) (hν : ∀ a o, ν a = some o → h.objs.size ≤ a ∧ o.isInst = false ∧ ∀ d, RepAt C h' d a o) : St C (ν.add τ) h' := by
 have y := x.grow k hs
 obtain ⟨δ, r1, r2⟩ := x.rep
 have lt : ∀ b D fs, τ b = some (.inst D fs) → δ b < h.objs.size := fun b D fs q => by
  obtain ⟨ob, e⟩ := (r1 b _ q).2.someD
  exact Heap.lt_size e
 have old : ∀ a o, (ν.add τ) a = some o → ν a = some o ∨ (ν a = none ∧ τ a = some o) := fun a o e => by
  unfold Sto.add at e
  cases q : ν a with
  | some z => rw [q] at e; exact .inl e
  | none => rw [q] at e; exact .inr ⟨rfl, e⟩
 refine ⟨y.keep, y.size, δ, fun b ob q => ?_, fun b D fs q => ?_⟩
 ·rcases old b ob q with e | ⟨_, e⟩
  ·exact ⟨Nat.le_trans x.size (hν b ob e).1, (hν b ob e).2.2 _⟩
  ·exact ⟨(r1 b ob e).1, (r1 b ob e).2.mv (k _) fun U => k _⟩
 ·rcases old b _ q with e | ⟨_, e⟩
  ·cases (hν b _ e).2.1
  ·have z := r2 b D fs e
   refine ⟨z.1, ?_, fun c E gs q' w => ?_⟩
   ·cases u : ν (δ b) with
    | none => simp only [Sto.add, u, Option.none_or]; exact z.2.1
    | some v => exact absurd (lt b D fs e) (Nat.not_lt.mpr (hν _ _ u).1)
   ·rcases old c _ q' with e' | ⟨_, e'⟩
    ·cases (hν c _ e').2.1
    ·exact z.2.2 c E gs e' w
theorem St.newInst {d D : Addr} {fs : List (Str × MV)} (x : St C τ h) (k : ∀ b ob, h.get? b = some ob → h'.get? b = some ob) (hs : h.objs.size ≤ h'.objs.size) (ha : h.objs.size ≤ a) (hd : h.objs.size ≤ d) (hne : d ≠ a)
  (r : RepAt C h' d a (.inst D fs)) : St C (τ.set a (.inst D fs)) h' := by
 have y := x.grow k hs
 have hn := x.fresh ha
 obtain ⟨δ, r1, r2⟩ := x.rep
 have lt : ∀ b D fs, τ b = some (.inst D fs) → δ b < h.objs.size := fun b D fs q => by
  obtain ⟨ob, e⟩ := (r1 b _ q).2.someD
  exact Heap.lt_size e
 refine ⟨y.keep, y.size, fun b => if b = a then d else δ b, fun b ob q => ?_, fun b D' fs' q => ?_⟩
 ·by_cases hb : b = a
  ·subst hb
   rw [Sto.set_self] at q; obtain rfl := si q
   exact ⟨Nat.le_trans x.size ha, by simpa using r⟩
  ·rw [Sto.set_ne _ _ hb] at q
   simp only [hb, if_false]
   exact ⟨(r1 b ob q).1, (r1 b ob q).2.mv (k _) fun U => k _⟩
 ·by_cases hb : b = a
  ·subst hb
   simp only [if_true]
   refine ⟨Nat.le_trans x.size hd, ?_, fun c E gs q' w => ?_⟩
   ·rw [Sto.set_ne _ _ hne]; exact x.fresh hd
   ·by_cases hc : c = b
    ·exact hc.symm
    ·rw [Sto.set_ne _ _ hc] at q'
     rw [if_neg hc] at w
     exact absurd (show d < h.objs.size from w ▸ lt c E gs q') (Nat.not_lt.mpr hd)
  ·rw [Sto.set_ne _ _ hb] at q
   have z := r2 b D' fs' q
   simp only [hb, if_false]
   refine ⟨z.1, ?_, fun c E gs q' w => ?_⟩
   ·rw [Sto.set_ne]
    ·exact z.2.1
    ·intro w; exact absurd (show a < h.objs.size from w ▸ lt b D' fs' q) (Nat.not_lt.mpr ha)
   ·by_cases hc : c = a
    ·subst hc
     simp only [if_true] at w
     exact absurd (show d < h.objs.size from w ▸ lt b D' fs' q) (Nat.not_lt.mpr hd)
    ·rw [Sto.set_ne _ _ hc] at q'
     simp only [hc, if_false] at w
     exact z.2.2 c E gs q' w
theorem St.instAt {D : Addr} {fs : List (Str × MV)} (x : St C τ h) (e : τ a = some (.inst D fs)) : ∃ d mA, h.get? a = some (instObj D d) ∧ NsN h d mA fs.length ∧ (∀ x, (mA x).map MV.of = fs.lookup x) ∧ fs.all (fun p => p.2.hok) = true ∧
  ∀ h' mA' fs', Heap.SameBut d h h' → NsN h' d mA' fs'.length → (∀ x, (mA' x).map MV.of = fs'.lookup x) → fs'.all (fun p => p.2.hok) = true → St C (τ.set a (.inst D fs')) h' := by
 obtain ⟨δ, r1, r2⟩ := x.rep
 obtain ⟨r3, mA, r4, r5, r6⟩ := (r1 a _ e).2
 refine ⟨δ a, mA, r3, r4, r5, r6, fun h' mA' fs' hs hn hm hk => ?_⟩
 have z := r2 a D fs e
 have hda : a ≠ δ a := fun q => by have := z.2.1; rw [← q, e] at this; exact sn this
 refine ⟨fun b ob q => (hs.2 b ?_).trans (x.keep b ob q), hs.1 ▸ x.size, δ, fun b ob q => ?_, fun b D' fs'' q => ?_⟩
 ·rintro rfl
  exact absurd (Heap.lt_size q) (Nat.not_lt.mpr z.1)
 ·by_cases hb : b = a
  ·subst hb
   rw [Sto.set_self] at q; obtain rfl := si q
   exact ⟨(r1 _ _ e).1, (hs.2 _ hda).trans r3, mA', hn, hm, hk⟩
  ·rw [Sto.set_ne _ _ hb] at q
   refine ⟨(r1 b ob q).1, (r1 b ob q).2.mv (fun U w => (hs.2 b fun u => ?_).trans w) fun hi U w => (hs.2 _ fun u => ?_).trans w⟩
   ·have := z.2.1; rw [← u, q] at this; exact sn this
   ·cases ob <;> try exact ft hi
    rename_i E gs
    exact hb (z.2.2 b E gs q u.symm).symm
 ·by_cases hb : b = a
  ·subst hb
   refine ⟨z.1, by rw [Sto.set_ne _ _ (Ne.symm hda)]; exact z.2.1, fun c E gs q' w => ?_⟩
   by_cases hc : c = b
   ·exact hc.symm
   ·rw [Sto.set_ne _ _ hc] at q'; exact z.2.2 c E gs q' w
  ·rw [Sto.set_ne _ _ hb] at q
   have y := r2 b D' fs'' q
   refine ⟨y.1, ?_, fun c E gs q' w => ?_⟩
   ·rw [Sto.set_ne]
    ·exact y.2.1
    ·intro w; have := y.2.1; rw [w, e] at this; exact sn this
   ·by_cases hc : c = a
    ·subst hc; exact y.2.2 c D fs e w
    ·rw [Sto.set_ne _ _ hc] at q'; exact y.2.2 c E gs q' w
end
structure G (C : Cx) (σ η : Sto) (s : Shared) : Prop where
 dj : ∀ a o, σ a = some o → η a = none
 st : St C (σ.add η) s.heap
 gens : s.gens = C.gens
 os : s.os = C.os
section
variable {C : Cx} {σ η : Sto} {s : Shared} {a : Addr} {o o' : MO}
theorem add_left (e : σ a = some o) : σ.add η a = some o := by simp [Sto.add, e]
theorem G.eta (g : G C σ η s) (e : η a = some o) : σ a = none := by
 cases q : σ a with
 | none => rfl
 | some x => exact nn ((g.dj a x q).symm.trans e)
theorem G.right (g : G C σ η s) (e : η a = some o) : σ.add η a = some o := by simp [Sto.add, g.eta e, e]
theorem add_set (σ η : Sto) (a : Addr) (o : MO) : (σ.set a o).add η = (σ.add η).set a o := by
 funext b; by_cases h : b = a <;> simp [Sto.add, Sto.set, h]
theorem add_setR (e : σ a = none) : σ.add (η.set a o) = (σ.add η).set a o := by
 funext b; by_cases h : b = a
 ·subst h; simp [Sto.add, Sto.set, e]
 ·simp [Sto.add, Sto.set, h]
theorem G.setS (g : G C σ η s) (e : η a = none) {s' : Shared} (x : St C ((σ.add η).set a o) s'.heap) (h1 : s'.gens = s.gens) (h2 : s'.os = s.os) : G C (σ.set a o) η s' :=
 ⟨fun b ob q => by
  by_cases hb : b = a
  ·subst hb; exact e
  ·rw [Sto.set_ne _ _ hb] at q; exact g.dj b ob q, by rw [add_set]; exact x, h1.trans g.gens, h2.trans g.os⟩
theorem G.setR (g : G C σ η s) (e : σ a = none) {s' : Shared} (x : St C ((σ.add η).set a o) s'.heap) (h1 : s'.gens = s.gens) (h2 : s'.os = s.os) : G C σ (η.set a o) s' :=
 ⟨fun b ob q => by
  by_cases hb : b = a
  ·subst hb; exact nn (e.symm.trans q)
  ·rw [Sto.set_ne _ _ hb]; exact g.dj b ob q, by rw [add_setR e]; exact x, h1.trans g.gens, h2.trans g.os⟩
theorem G.sub {σ' η' : Sto} (g : G C σ η s) (k1 : ∀ a o, σ' a = some o → σ a = some o) (k2 : ∀ a o, η' a = some o → η a = some o) : G C σ' η' s := by
 refine ⟨fun b ob q => ?_, g.st.sub fun b ob q => ?_, g.gens, g.os⟩
 ·cases z : η' b with
  | none => rfl
  | some w => have := g.dj b ob (k1 _ _ q); exact sn ((k2 _ _ z).symm.trans this)
 ·simp only [Sto.add] at q ⊢
  cases z : σ' b with
  | some w => rw [z] at q; obtain rfl := si q; rw [k1 _ _ z]; rfl
  | none =>
   rw [z] at q
   simp only [Option.none_or] at q
   have := k2 _ _ q
   rw [g.eta this, this]; rfl
theorem G.grow (g : G C σ η s) {s' : Shared} (k : ∀ b ob, s.heap.get? b = some ob → s'.heap.get? b = some ob) (hs : s.heap.objs.size ≤ s'.heap.objs.size) (h1 : s'.gens = s.gens) (h2 : s'.os = s.os) : G C σ η s' :=
 ⟨g.dj, g.st.grow k hs, h1.trans g.gens, h2.trans g.os⟩
theorem G.tok (g : G C σ η s) {t : Nat} : G C σ η { s with toks := t } := ⟨g.dj, g.st, g.gens, g.os⟩
theorem G.over {ν : Sto} (g : G C σ η s) {s' : Shared} (k : ∀ b ob, s.heap.get? b = some ob → s'.heap.get? b = some ob) (hs : s.heap.objs.size ≤ s'.heap.objs.size) (hν : ∀ a o, ν a = some o → s.heap.objs.size ≤ a ∧ o.isInst = false ∧ ∀ d, RepAt C s'.heap d a o) (h1 : s'.gens = s.gens) (h2 : s'.os = s.os) : G C σ (ν.add η) s' := by
 have no : ∀ a o, σ a = some o → ν a = none := fun a o e => by
  cases q : ν a with
  | none => rfl
  | some z => exact absurd (g.st.lt (add_left e)) (Nat.not_lt.mpr (hν a z q).1)
 refine ⟨fun a o e => ?_, ?_, h1.trans g.gens, h2.trans g.os⟩
 ·simp only [Sto.add, no a o e, Option.none_or]; exact g.dj a o e
 ·have e : σ.add (ν.add η) = ν.add (σ.add η) := by
   funext a
   simp only [Sto.add]
   cases q : σ a with
   | none => simp
   | some o => simp [no a o q]
  rw [e]
  exact g.st.over k hs hν
theorem G.X (g : G C σ η s) : C.K.In s.heap := C.X.keeps g.st.keep
theorem G.T (g : G C σ η s) : Top C.p C.loose C.mean C.mg C.mb s.heap := C.T.keeps g.st.keep
theorem G.at (g : G C σ η s) (e : σ.add η a = some o) : ∃ d, RepAt C s.heap d a o := by
 obtain ⟨δ, r, _⟩ := g.st.rep
 exact ⟨δ a, (r a o e).2⟩
theorem G.atS (g : G C σ η s) (e : σ a = some o) : ∃ d, RepAt C s.heap d a o := g.at (add_left e)
theorem G.fresh (g : G C σ η s) (e : s.heap.objs.size ≤ a) : σ a = none ∧ η a = none := by
 have := g.st.fresh e
 simp only [Sto.add, Option.or_eq_none_iff] at this
 exact this
end
end
section
noncomputable abbrev Loc := List (Str × MV)
noncomputable def setL : Loc → Str → MV → Loc
 | [], x, v => [(x, v)]
 | (y, w) :: r, x, v => if y == x then (y, v) :: r else (y, w) :: setL r x v
theorem lookup_setL (l : Loc) (x : Str) (v : MV) (y : Str) : (setL l x v).lookup y = if y = x then some v else l.lookup y := by
 induction l with
 | nil =>
  by_cases h : y = x
  ·subst h; simp [setL]
  ·simp [setL, List.lookup_cons, beq_eq_false_iff_ne.mpr h, h]
 | cons p r ih =>
  obtain ⟨k, w⟩ := p
  unfold setL
  by_cases hk : k = x
  ·subst hk
   simp only [beq_self_eq_true, if_true, List.lookup_cons]
   by_cases h : y = k
   ·subst h; simp
   ·simp [beq_eq_false_iff_ne.mpr h, h]
  ·rw [if_neg (by simpa using hk), List.lookup_cons, List.lookup_cons, ih]
   by_cases h : y = k
   ·subst h; simp [hk]
   ·simp [beq_eq_false_iff_ne.mpr h]
theorem setL_length (l : Loc) (x : Str) (v : MV) : (setL l x v).length = if (l.lookup x).isSome then l.length else l.length + 1 := by
 induction l with
 | nil => rfl
 | cons p r ih =>
  obtain ⟨k, w⟩ := p
  unfold setL
  by_cases h : x = k
  ·subst h; simp
  ·have h1 : (x == k) = false := beq_eq_false_iff_ne.mpr h
   have h2 : (k == x) = false := beq_eq_false_iff_ne.mpr (Ne.symm h)
   simp only [h2, Bool.false_eq_true, if_false, List.length_cons, List.lookup_cons, h1, ih]
   split <;> rfl
theorem setL_all {l : Loc} {x : Str} {v : MV} (h : l.all (fun p => p.2.hok) = true) (hv : v.hok = true) : (setL l x v).all (fun p => p.2.hok) = true := by
 induction l with
 | nil => simp [setL, hv]
 | cons p r ih =>
  obtain ⟨k, w⟩ := p
  simp only [List.all_cons, Bool.and_eq_true] at h
  unfold setL
  split
  ·simp only [List.all_cons, Bool.and_eq_true]; exact ⟨hv, h.2⟩
  ·simp only [List.all_cons, Bool.and_eq_true]; exact ⟨h.1, ih h.2⟩
theorem hok_of_lookup {l : Loc} {x : Str} {v : MV} (h : l.all (fun p => p.2.hok) = true) (e : l.lookup x = some v) : v.hok = true := by
 induction l with
 | nil => exact nn e
 | cons p r ih =>
  obtain ⟨k, w⟩ := p
  simp only [List.all_cons, Bool.and_eq_true] at h
  rw [List.lookup_cons] at e
  split at e
  ·obtain rfl := si e; exact h.1
  ·exact ih h.2 e
noncomputable def nF : Value → Shared → Prop := fun U U => False
noncomputable def WP {α : Type} (C : Cx) (A : Around) (t : Sem α) (σ η : Sto) (Q : α → Sto → Prop) : Prop :=
 ∀ s, G C σ η s → wpAny C.M A t (fun a s' => ∃ σ', G C σ' η s' ∧ Q a σ') nF s
noncomputable def PS {α : Type} (C : Cx) (A : Around) (t : Sem α) (σ : Sto) (Q : α → Sto → Prop) : Prop := ∀ η, WP C A t σ η Q
section
variable {α β : Type} {C : Cx} {A : Around} {σ η : Sto}
theorem wpK {t : Sem α} {P : α → Sto → Prop} {s : Shared} {R : α → Shared → Prop} (h : wpAny C.M A t (fun a s' => ∃ σ', G C σ' η s' ∧ P a σ') nF s) (k : ∀ a s' σ', G C σ' η s' → P a σ' → R a s') : wpAny C.M A t R nF s :=
 wpAny_mono h (fun a s' x => x.elim fun σ' y => k a s' σ' y.1 y.2) fun U U x => x
theorem wpKa {t : Sem α} {P P' : α → Sto → Prop} {s : Shared} {R : α → Shared → Prop} (h : wpAny C.M A t (fun a s' => ∃ σ', G C σ' η s' ∧ P a σ' ∧ P' a σ') nF s) (k : ∀ a s' σ', G C σ' η s' → P a σ' → P' a σ' → R a s') : wpAny C.M A t R nF s :=
 wpAny_mono h (fun a s' x => x.elim fun σ' y => k a s' σ' y.1 y.2.1 y.2.2) fun U U x => x
end
structure EnvOk (env : Env) : Prop where
 kind : env.scope.kind = .function
 glob : env.globals = mainGlobals
 blt : env.builtins = builtinsNs
 nd : (env.cells.map (·.2)).Nodup
 nn : (env.cells.map (·.1)).Nodup
 nl : env.locals ∉ env.cells.map (·.2)
 nk : ∀ p ∈ env.cells, env.kindOf p.1 ≠ some .local
noncomputable def FR (env : Env) (ρ : Loc) (η : Sto) : Sto := fun a =>
 if a = env.locals then some (.ns fun x => if env.kindOf x = some .local then ρ.lookup x else none)
 else match env.cells.find? (fun p => p.2 == a) with
  | some p => some (.cell (ρ.lookup p.1))
  | none => η a
theorem FR_loc (env : Env) (ρ : Loc) (η : Sto) : FR env ρ η env.locals = some (.ns fun x => if env.kindOf x = some .local then ρ.lookup x else none) := by simp [FR]
theorem find_addr : ∀ {l : List (Str × Addr)}, (l.map (·.2)).Nodup → ∀ {p : Str × Addr}, p ∈ l → l.find? (fun q => q.2 == p.2) = some p
 | [], _, _, h => nomatch h
 | q :: r, hn, p, h => by
  rw [List.map_cons, List.nodup_cons] at hn
  rcases List.mem_cons.mp h with rfl | h
  ·simp
  ·rw [List.find?_cons]
   have : (q.2 == p.2) = false := beq_eq_false_iff_ne.mpr fun e => hn.1 (e ▸ List.mem_map_of_mem h)
   rw [this]; exact find_addr hn.2 h
theorem FR_cell {env : Env} (ok : EnvOk env) (ρ : Loc) (η : Sto) {x : Str} {c : Addr} (h : env.cells.lookup x = some c) : FR env ρ η c = some (.cell (ρ.lookup x)) := by
 have hm : (x, c) ∈ env.cells := mem_of_lookup h
 have hne : c ≠ env.locals := fun e => ok.nl (e ▸ List.mem_map.mpr ⟨_, hm, rfl⟩)
 unfold FR
 rw [if_neg hne]
 have := find_addr ok.nd hm
 simp only at this
 rw [this]
theorem FR_setL_local {env : Env} (ok : EnvOk env) (ρ : Loc) (η : Sto) {x : Str} {v : MV} (hl : env.kindOf x = some .local) :
  FR env (setL ρ x v) η = (FR env ρ η).set env.locals (.ns fun y => if env.kindOf y = some .local then (setL ρ x v).lookup y else none) := by
 funext a
 by_cases h : a = env.locals
 ·subst h; rw [FR_loc, Sto.set_self]
 ·rw [Sto.set_ne _ _ h]
  unfold FR
  rw [if_neg h, if_neg h]
  cases q : env.cells.find? (fun p => p.2 == a) with
  | none => rfl
  | some p =>
   have hp := ok.nk p (List.mem_of_find?_eq_some q)
   have : p.1 ≠ x := fun e => hp (e ▸ hl)
   simp only [lookup_setL, if_neg this]
theorem name_inj : ∀ {l : List (Str × Addr)}, (l.map (·.1)).Nodup → ∀ {x : Str} {a b : Addr}, (x, a) ∈ l → (x, b) ∈ l → a = b
 | p :: r, hn, x, a, b, h, h' => by
  rw [List.map_cons, List.nodup_cons] at hn
  rcases List.mem_cons.mp h with e1 | h1 <;> rcases List.mem_cons.mp h' with e2 | h2
  ·rw [← e2] at e1; exact (Prod.mk.inj e1).2
  ·exact absurd (show p.1 ∈ r.map (·.1) from List.mem_map.mpr ⟨_, h2, by rw [← e1]⟩) hn.1
  ·exact absurd (show p.1 ∈ r.map (·.1) from List.mem_map.mpr ⟨_, h1, by rw [← e2]⟩) hn.1
  ·exact name_inj hn.2 h1 h2
theorem FR_setL_cell {env : Env} (ok : EnvOk env) (ρ : Loc) (η : Sto) {x : Str} {v : MV} {c : Addr} (h : env.cells.lookup x = some c) :
  FR env (setL ρ x v) η = (FR env ρ η).set c (.cell (some v)) := by
 have hm : (x, c) ∈ env.cells := mem_of_lookup h
 have hne : c ≠ env.locals := fun e => ok.nl (e ▸ List.mem_map.mpr ⟨_, hm, rfl⟩)
 funext a
 by_cases ha : a = c
 ·subst ha; rw [Sto.set_self, FR_cell ok _ _ h, lookup_setL, if_pos rfl]
 ·rw [Sto.set_ne _ _ ha]
  unfold FR
  by_cases hl : a = env.locals
  ·rw [if_pos hl, if_pos hl]
   congr 2
   funext y
   split
   ·rename_i hk
    rw [lookup_setL, if_neg]
    rintro rfl
    exact ok.nk _ hm hk
   ·rfl
  ·rw [if_neg hl, if_neg hl]
   cases q : env.cells.find? (fun p => p.2 == a) with
   | none => rfl
   | some p =>
    have hp := List.mem_of_find?_eq_some q
    have hpa : p.2 = a := by simpa using List.find?_some q
    have : p.1 ≠ x := by
     rintro rfl
     exact ha (hpa.symm.trans (name_inj ok.nn (a := p.2) hp hm))
    simp only [lookup_setL, if_neg this]
inductive MF where
 | next | brk | cont | ret (v : MV)
noncomputable def MF.of : Flow → MF
 | .next => .next
 | .brk => .brk
 | .cont => .cont
 | .ret v => .ret (MV.of v)
theorem wpK2 {α : Type} {C : Cx} {A : Around} {η : Sto} {env : Env} {t : Sem α} {P : α → Loc → Sto → Prop} {s : Shared} {R : α → Shared → Prop} (h : wpAny C.M A t (fun a s' => ∃ ρ' σ', G C σ' (FR env ρ' η) s' ∧ P a ρ' σ') nF s) (k : ∀ a s' ρ' σ', G C σ' (FR env ρ' η) s' → P a ρ' σ' → R a s') : wpAny C.M A t R nF s :=
 wpAny_mono h (fun a s' x => x.elim fun ρ' y => y.elim fun σ' z => k a s' ρ' σ' z.1 z.2) fun U U x => x
section
variable (C : Cx) (A : Around) (env : Env)
noncomputable def EV (e : Expr) (ρ : Loc) (σ : Sto) (Q : MV → Sto → Prop) : Prop := EnvOk env → ∀ η, WP C A (eval e env) σ (FR env ρ η) fun v σ' => Q (MV.of v) σ'
noncomputable def TST (e : Expr) (ρ : Loc) (σ : Sto) (Q : Bool → Sto → Prop) : Prop := EnvOk env → ∀ η, WP C A (isTrue e env (eval e env)) σ (FR env ρ η) Q
noncomputable def EVS (pos : Pos) (es : List Expr) (ρ : Loc) (σ : Sto) (Q : List MV → Sto → Prop) : Prop := EnvOk env → ∀ η, WP C A (spliced (backTo pos (starEach es env))) σ (FR env ρ η) fun vs σ' => Q (vs.map MV.of) σ'
noncomputable def ASG (t : Expr) (v : MV) (ρ : Loc) (σ : Sto) (Q : Loc → Sto → Prop) : Prop := EnvOk env → ∀ η s vr, MV.of vr = v → G C σ (FR env ρ η) s →
 wpAny C.M A (assign t env vr) (fun U s' => ∃ ρ' σ', G C σ' (FR env ρ' η) s' ∧ Q ρ' σ') nF s
noncomputable def EX1 (st : Stmt) (ρ : Loc) (σ : Sto) (Q : MF → Loc → Sto → Prop) : Prop := EnvOk env → ∀ η s, G C σ (FR env ρ η) s →
 wpAny C.M A (exec st env) (fun fl s' => ∃ ρ' σ', G C σ' (FR env ρ' η) s' ∧ Q (MF.of fl) ρ' σ') nF s
noncomputable def EX (sts : List Stmt) (ρ : Loc) (σ : Sto) (Q : MF → Loc → Sto → Prop) : Prop := EnvOk env → ∀ η s, G C σ (FR env ρ η) s →
 wpAny C.M A (execs sts env) (fun fl s' => ∃ ρ' σ', G C σ' (FR env ρ' η) s' ∧ Q (MF.of fl) ρ' σ') nF s
end
noncomputable def CALL (C : Cx) (A : Around) (f : MV) (args : List MV) (σ : Sto) (Q : MV → Sto → Prop) : Prop :=
 ∀ fv vs, MV.of fv = f → vs.map MV.of = args → PS C A (call fv vs []) σ fun v σ' => Q (MV.of v) σ'
noncomputable def METH (C : Cx) (A : Around) (o : MV) (name : Str) (σ : Sto) (Q : MV → List MV → Sto → Prop) : Prop :=
 ∀ ov pl, MV.of ov = o → PS C A (getMethod ov name pl) σ fun r σ' => Q (MV.of r.1) (r.2.map MV.of) σ'
noncomputable def GET (C : Cx) (A : Around) (o : MV) (name : Str) (σ : Sto) (Q : MV → Sto → Prop) : Prop :=
 ∀ ov, MV.of ov = o → PS C A (getAttr ov name true) σ fun v σ' => Q (MV.of v) σ'
noncomputable def SETA (C : Cx) (A : Around) (o : MV) (name : Str) (v : MV) (σ : Sto) (Q : Sto → Prop) : Prop :=
 ∀ ov vr, MV.of ov = o → MV.of vr = v → PS C A (setAttr ov name vr) σ fun U σ' => Q σ'
noncomputable def BIN (C : Cx) (A : Around) (op : Operator) (a b : MV) (σ : Sto) (Q : MV → Sto → Prop) : Prop :=
 ∀ av bv, MV.of av = a → MV.of bv = b → PS C A (binaryOp op av bv) σ fun v σ' => Q (MV.of v) σ'
noncomputable def CMP (C : Cx) (A : Around) (op : CmpOp) (a b : MV) (σ : Sto) (Q : MV → Sto → Prop) : Prop :=
 ∀ av bv, MV.of av = a → MV.of bv = b → PS C A (compareOp op av bv) σ fun v σ' => Q (MV.of v) σ'
noncomputable def SUB (C : Cx) (A : Around) (value slice : Expr) (o i : MV) (σ : Sto) (Q : MV → Sto → Prop) : Prop :=
 ∀ ov iv, MV.of ov = o → MV.of iv = i → PS C A (subscriptTail value slice ov iv) σ fun v σ' => Q (MV.of v) σ'
noncomputable def SETI (C : Cx) (A : Around) (o i v : MV) (σ : Sto) (Q : Sto → Prop) : Prop :=
 ∀ ov iv vr, MV.of ov = o → MV.of iv = i → MV.of vr = v → PS C A (setItem ov iv vr) σ fun U σ' => Q σ'
noncomputable def TRU (C : Cx) (A : Around) (v : MV) (σ : Sto) (Q : Bool → Sto → Prop) : Prop :=
 ∀ vr, MV.of vr = v → PS C A (truthy vr) σ Q
theorem MV.of_ref {v : Value} {a : Addr} (h : MV.of v = .ref a) : v = .ref a := by cases v <;> cases h; rfl
theorem MV.of_none {v : Value} (h : MV.of v = .none) : v = .none := by cases v <;> cases h; rfl
theorem MV.of_bool {v : Value} {b : Bool} (h : MV.of v = .bool b) : v = .bool b := by cases v <;> cases h; rfl
theorem MV.of_type {v : Value} {b : String} (h : MV.of v = .type b) : v = .type b := by cases v <;> cases h; rfl
theorem MV.of_builtin {v : Value} {b : String} (h : MV.of v = .builtin b) : v = .builtin b := by cases v <;> cases h; rfl
theorem MV.of_int {v : Value} {i : Int} (h : MV.of v = .int i) : ∃ t, v = .int i t := by cases v <;> cases h; exact ⟨_, rfl⟩
theorem MV.of_str {v : Value} {i : Str} (h : MV.of v = .str i) : ∃ t, v = .str i t := by cases v <;> cases h; exact ⟨_, rfl⟩
section
variable {C : Cx} {A : Around} {env : Env} {ρ : Loc} {σ : Sto}
theorem EV_loc {x : Str} {pos : Pos} {v : MV} {Q : MV → Sto → Prop} (hv : ρ.lookup x = some v) (hk : env.kindOf x = some .local) (h : Q v σ) (hd : (x == ("__debug__" : Str)) = false) :
  EV C A env (.Name x pos) ρ σ Q := fun ok η s g => by
 refine xe22 (g.at (g.right (FR_loc env ρ η))) fun d mA hn hm => ?_
 have := hm x
 simp only [if_pos hk, hv] at this
 refine xe12 (Option.map_eq_some_iff.mp this) fun v' e1 eq2 => ?_; obtain rfl := eq2
 exact wpAny_Name (wpAny_loadName_local ok.kind hk hn e1 ⟨σ, g, h⟩) hd
theorem EV_cell {x : Str} {pos : Pos} {v : MV} {c : Addr} {Q : MV → Sto → Prop} (hv : ρ.lookup x = some v) (hk : env.kindOf x = some .cell) (hc : env.cells.lookup x = some c) (h : Q v σ) (hd : (x == ("__debug__" : Str)) = false) :
  EV C A env (.Name x pos) ρ σ Q := fun ok η s g => by
 refine xe22 (g.at (g.right (FR_cell ok ρ η hc))) fun d v' hn hm => ?_
 rw [hv] at hm
 refine xe12 (Option.map_eq_some_iff.mp hm) fun v'' e1 eq2 => ?_; obtain rfl := eq2
 subst e1
 exact wpAny_Name (wpAny_loadName_cell ok.kind hk hc hn ⟨σ, g, h⟩) hd
theorem EV_glob {x : Str} {pos : Pos} {v : Value} {Q : MV → Sto → Prop} (e : nsIn C.K mainGlobals x = some (some v)) (hk : env.kindOf x = some .globalImplicit) (h : Q (MV.of v) σ) (hd : (x == ("__debug__" : Str)) = false) :
  EV C A env (.Name x pos) ρ σ Q := fun ok η s g =>
 Name_function_global ok.kind hk (loadGlobal_global (env := env) (by rw [ok.glob]; exact g.T.g) (mg_of g.X g.T.g e) ⟨σ, g, h⟩) hd
theorem EV_blt {x : Str} {pos : Pos} {v : Value} {Q : MV → Sto → Prop} (e : nsIn C.K mainGlobals x = some none) (hv : bootBuiltins x = some v) (hn : x ≠ "__name__") (hk : env.kindOf x = some .globalImplicit) (h : Q (MV.of v) σ) (hd : (x == ("__debug__" : Str)) = false) :
  EV C A env (.Name x pos) ρ σ Q := fun ok η s g =>
 Name_function_global ok.kind hk (loadGlobal_builtin (env := env) (by rw [ok.glob]; exact g.T.g) (mg_none_of g.X g.T.g e) (by rw [ok.blt]; exact g.T.b) ((g.T.builtins x hn).trans hv) ⟨σ, g, h⟩) hd
theorem EV_int {i : Int} {k : Nat} {pos : Pos} {Q : MV → Sto → Prop} (h : Q (.int i) σ) : EV C A env (.Constant (.int i) k pos) ρ σ Q := fun U U U g => wpAny_Constant_int ⟨σ, g.tok, h⟩
theorem EV_str {i : Str} {k : Nat} {pos : Pos} {Q : MV → Sto → Prop} (h : Q (.str i) σ) : EV C A env (.Constant (.str i) k pos) ρ σ Q := fun U U U g => wpAny_Constant_str ⟨σ, g.tok, h⟩
theorem EV_none {k : Nat} {pos : Pos} {Q : MV → Sto → Prop} (h : Q .none σ) : EV C A env (.Constant .none k pos) ρ σ Q := fun U U U g => wpAny_Constant_none ⟨σ, g, h⟩
theorem EV_bool {b : Bool} {k : Nat} {pos : Pos} {Q : MV → Sto → Prop} (h : Q (.bool b) σ) : EV C A env (.Constant (.bool b) k pos) ρ σ Q := fun U U U g => wpAny_Constant_bool ⟨σ, g, h⟩
theorem EV_bin {l r : Expr} {op : Operator} {pos : Pos} {Q : MV → Sto → Prop} (h : EV C A env l ρ σ fun a σ₁ => EV C A env r ρ σ₁ fun b σ₂ => BIN C A op a b σ₂ Q) : EV C A env (.BinOp l op r pos) ρ σ Q := fun ok η s g =>
 wpAny_BinOp (wpK (h ok η s g) (fun a U U g1 h1 => wpK (h1 ok η _ g1) (fun b U U g2 h2 => h2 a b rfl rfl _ _ g2)))
theorem EV_cmp {l r : Expr} {op : CmpOp} {pos : Pos} {Q : MV → Sto → Prop} (h : EV C A env l ρ σ fun a σ₁ => EV C A env r ρ σ₁ fun b σ₂ => CMP C A op a b σ₂ Q) (hm : behindInMarks op r = false) : EV C A env (.Compare l [op] [r] pos) ρ σ Q := fun ok η s g =>
 wpAny_Compare1 (wpK (h ok η s g) (fun a U U g1 h1 => wpK (h1 ok η _ g1) (fun b U U g2 h2 => h2 a b rfl rfl _ _ g2))) hm
theorem EV_ife {t b o : Expr} {pos : Pos} {Q : MV → Sto → Prop} (h : TST C A env t ρ σ fun k σ₁ => if k then EV C A env b ρ σ₁ Q else EV C A env o ρ σ₁ Q) : EV C A env (.IfExp t b o pos) ρ σ Q := fun ok η s g => by
 refine wpAny_IfExp (wpK (h ok η s g) (fun k U U g1 h1 => ?_))
 cases k
 ·exact h1 ok η _ g1
 ·exact h1 ok η _ g1
theorem EV_not {x : Expr} {pos : Pos} {Q : MV → Sto → Prop} (h : EV C A env x ρ σ fun v σ₁ => TRU C A v σ₁ fun b σ₂ => Q (.bool (!b)) σ₂) : EV C A env (.UnaryOp .Not x pos) ρ σ Q := fun ok η s g =>
 wpAny_UnaryOp (wpK (h ok η s g) (fun v U U g1 h1 => not_value (wpK (h1 v rfl _ _ g1) (fun U U σ' g2 h2 => ⟨σ', g2, h2⟩))))
theorem EV_and {x y : Expr} {pos : Pos} {Q : MV → Sto → Prop} (h : EV C A env x ρ σ fun v σ₁ => TRU C A v σ₁ fun b σ₂ => if b then EV C A env y ρ σ₂ Q else Q v σ₂) : EV C A env (.BoolOp .And [x, y] pos) ρ σ Q := fun ok η s g => by
 refine wpAny_And2 (wpK (h ok η s g) (fun v U U g1 h1 => wpK (h1 v rfl _ _ g1) (fun b U σ' g2 h2 => ?_)))
 cases b
 ·exact ⟨σ', g2, h2⟩
 ·exact h2 ok η _ g2
theorem EV_or {x y : Expr} {pos : Pos} {Q : MV → Sto → Prop} (h : EV C A env x ρ σ fun v σ₁ => TRU C A v σ₁ fun b σ₂ => if b then Q v σ₂ else EV C A env y ρ σ₂ Q) : EV C A env (.BoolOp .Or [x, y] pos) ρ σ Q := fun ok η s g => by
 refine wpAny_Or2 (wpK (h ok η s g) (fun v U U g1 h1 => wpK (h1 v rfl _ _ g1) (fun b U σ' g2 h2 => ?_)))
 cases b
 ·exact h2 ok η _ g2
 ·exact ⟨σ', g2, h2⟩
theorem TST_cmp {l r : Expr} {op : CmpOp} {pos : Pos} {Q : Bool → Sto → Prop} (h : EV C A env l ρ σ fun a σ₁ => EV C A env r ρ σ₁ fun b σ₂ => CMP C A op a b σ₂ fun c σ₃ => TRU C A c σ₃ Q) (hm : behindInMarks op r = false) : TST C A env (.Compare l [op] [r] pos) ρ σ Q := fun ok η s g =>
 wpAny_isTrue_Compare1 (wpK (h ok η s g) (fun a U U g1 h1 => wpK (h1 ok η _ g1) (fun b U U g2 h2 => wpK (h2 a b rfl rfl _ _ g2) (fun c U U g3 h3 => h3 c rfl _ _ g3)))) hm
theorem TST_not {x : Expr} {pos : Pos} {Q : Bool → Sto → Prop} (h : TST C A env x ρ σ fun b σ' => Q (!b) σ') : TST C A env (.UnaryOp .Not x pos) ρ σ Q := fun ok η s g =>
 wpAny_isTrue_Not (h ok η s g)
noncomputable def ALLT (C : Cx) (A : Around) (env : Env) (op : BoolOp) (es : List Expr) (ρ : Loc) (σ : Sto) (Q : Bool → Sto → Prop) : Prop := EnvOk env → ∀ η, WP C A (allTrue op es env) σ (FR env ρ η) Q
theorem TST_bool {op : BoolOp} {es : List Expr} {pos : Pos} {Q : Bool → Sto → Prop} (h : ALLT C A env op es ρ σ Q) : TST C A env (.BoolOp op es pos) ρ σ Q := fun ok η s g => wpAny_isTrue_BoolOp (h ok η s g)
theorem ALLT_and_nil {Q : Bool → Sto → Prop} (h : Q true σ) : ALLT C A env .And [] ρ σ Q := fun U U U g => wpAny_allTrue_And_nil ⟨σ, g, h⟩
theorem ALLT_or_nil {Q : Bool → Sto → Prop} (h : Q false σ) : ALLT C A env .Or [] ρ σ Q := fun U U U g => wpAny_allTrue_Or_nil ⟨σ, g, h⟩
theorem ALLT_and {x : Expr} {r : List Expr} {Q : Bool → Sto → Prop} (h : TST C A env x ρ σ fun b σ₁ => if b then ALLT C A env .And r ρ σ₁ Q else Q false σ₁) : ALLT C A env .And (x :: r) ρ σ Q := fun ok η s g => by
 refine wpAny_allTrue_And_cons (wpK (h ok η s g) (fun b U σ' g1 h1 => ?_))
 cases b
 ·exact ⟨σ', g1, h1⟩
 ·exact h1 ok η _ g1
theorem ALLT_or {x : Expr} {r : List Expr} {Q : Bool → Sto → Prop} (h : TST C A env x ρ σ fun b σ₁ => if b then Q true σ₁ else ALLT C A env .Or r ρ σ₁ Q) : ALLT C A env .Or (x :: r) ρ σ Q := fun ok η s g => by
 refine wpAny_allTrue_Or_cons (wpK (h ok η s g) (fun b U σ' g1 h1 => ?_))
 cases b
 ·exact h1 ok η _ g1
 ·exact ⟨σ', g1, h1⟩
end
end
section
structure Bud (A : Around) (n : Nat) : Prop where
 d : A.depth + n < recursionLimit
 u : A.units + 8 * n + 64 < cLine
 h : A.handled = none
theorem Bud.mono {A : Around} {n m : Nat} (b : Bud A n) (h : m ≤ n) : Bud A m := ⟨by have := b.d; lia, by have := b.u; lia, b.h⟩
theorem Bud.deeper {A : Around} {n : Nat} {env : Env} (b : Bud A (n + 1)) : Bud (A.deeper env) n :=
 ⟨by show A.depth + 1 + n < _; have := b.d; lia, by show A.units + 3 + 8 * n + 64 < _; have := b.u; lia, b.h⟩
theorem Bud.in1 {A : Around} {n : Nat} (b : Bud A (n + 1)) : Bud A.in1 n :=
 ⟨by show A.depth + n < _; have := b.d; lia, by show A.units + 1 + 8 * n + 64 < _; have := b.u; lia, b.h⟩
theorem Bud.room {A : Around} {n : Nat} (b : Bud A n) : A.depth < recursionLimit := by have := b.d; lia
theorem Bud.make {A : Around} {n : Nat} {C : Addr} {vals : List Value} (b : Bud A (n + 1)) : Bud (A.under (.builtin "type.__call__" ⟨.ref C :: vals, []⟩)) n :=
 ⟨by rw [show (A.under (.builtin "type.__call__" ⟨.ref C :: vals, []⟩)).depth = A.depth + 1 from rfl]; have := b.d; lia,
  by rw [show (A.under (.builtin "type.__call__" ⟨.ref C :: vals, []⟩)).units = A.units + 1 from rfl]; have := b.u; lia, b.h⟩
section
variable {C : Cx} {A : Around} {env : Env} {ρ : Loc} {σ : Sto}
theorem EVS_nil {pos : Pos} {Q : List MV → Sto → Prop} (h : Q [] σ) : EVS C A env pos [] ρ σ Q := fun U U U g => wpAny_items_nil ⟨σ, g, h⟩
theorem EVS_cons {pos : Pos} {e : Expr} {r : List Expr} {Q : List MV → Sto → Prop} (h : EV C A env e ρ σ fun v σ₁ => EVS C A env pos r ρ σ₁ fun vs σ₂ => Q (v :: vs) σ₂)
  (he : starEach (e :: r) env = (false, eval e env) :: starEach r env) : EVS C A env pos (e :: r) ρ σ Q := fun ok η s g =>
 wpAny_items_cons (wpK (h ok η s g) (fun v U U g1 h1 => wpK (h1 ok η _ g1) (fun vs U σ' g2 h2 => ⟨σ', g2, h2⟩))) he
theorem new_seq {η : Sto} {s : Shared} {o : MO} {ob : Obj} (g : G C σ η s) (ni : o.isInst = false) (hf : ob.isFreed = false) (r : ∀ h' : Heap, h'.get? s.heap.objs.size = some ob → ∀ d, RepAt C h' d s.heap.objs.size o) :
  G C (σ.set s.heap.objs.size o) η { s with heap := s.heap.push ob } := by
 have hn := g.fresh (Nat.le_refl _)
 exact g.setS hn.2 (g.st.new (fun b ob' e => Heap.get?_push_of_some _ e) (by rw [Heap.size_push]; exact Nat.le_succ _) (Nat.le_refl _) ni (fun d => r _ (Heap.get?_push_size _ hf) d)) rfl rfl
theorem new_tuple {η : Sto} {s : Shared} {vs : List Value} (g : G C σ η s) : G C (σ.set s.heap.objs.size (.tuple (vs.map MV.of))) η { s with heap := s.heap.push { cls := .type "tuple", data := .seq vs.toArray } } :=
 new_seq g rfl rfl fun h' e d => show ∃ its n, _ from ⟨vs.toArray, 0, e, by simp⟩
theorem new_list {η : Sto} {s : Shared} {vs : List Value} (g : G C σ η s) : G C (σ.set s.heap.objs.size (.list (vs.map MV.of))) η { s with heap := s.heap.push { cls := .type "list", data := .seq vs.toArray } } :=
 new_seq g rfl rfl fun h' e d => show ∃ its n, _ from ⟨vs.toArray, 0, e, by simp⟩
theorem le_line {n : Nat} (h : n ≤ 4000000) : n ≤ sizeLine := by rw [sizeLine_eq]; lia
theorem EV_tuple {es : List Expr} {k : Nat} {pos : Pos} {Q : MV → Sto → Prop} (h : EVS C A env pos es ρ σ fun xs σ₁ => xs.length ≤ 1000000 ∧ ∀ a, σ₁ a = none → Q (.ref a) (σ₁.set a (.tuple xs))) : EV C A env (.Tuple es k pos) ρ σ Q := fun ok η s g => by
 refine Tuple_ (wpKa (h ok η s g) (fun vs s' σ' g1 hl h1 => ?_))
 rw [List.length_map] at hl
 exact wpAny_newTuple ⟨_, new_tuple g1, h1 _ (g1.fresh (Nat.le_refl _)).1⟩ (le_line (by lia))
theorem EV_list {es : List Expr} {pos : Pos} {Q : MV → Sto → Prop} (h : EVS C A env pos es ρ σ fun xs σ₁ => xs.length ≤ 1000000 ∧ ∀ a, σ₁ a = none → Q (.ref a) (σ₁.set a (.list xs))) : EV C A env (.List es pos) ρ σ Q := fun ok η s g => by
 refine List_ (wpKa (h ok η s g) (fun vs s' σ' g1 hl h1 => ?_))
 rw [List.length_map] at hl
 exact wpAny_newList ⟨_, new_list g1, h1 _ (g1.fresh (Nat.le_refl _)).1⟩ (le_line (by lia))
noncomputable def notSuper (o : Expr) : Prop := ∀ attr env whole, attributeBase o attr env whole = whole
theorem EV_attr {value : Expr} {attr : Str} {pos : Pos} {Q : MV → Sto → Prop} (h : EV C A env value ρ σ fun o σ₁ => GET C A o attr σ₁ Q) (hs : notSuper value) : EV C A env (.Attribute value attr pos) ρ σ Q := fun ok η s g => by
 rw [arm_eval_Attribute, hs]
 refine wpAny_bind (wpK (h ok η s g) (fun o U U g1 h1 => ?_))
 exact wpAny_bind (wpAny_standAt (wpAny_bind (wpAny_holding (wpK (h1 o rfl _ _ g1) (fun v U σ' g2 h2 => wpAny_bind (wpAny_letTemporaryGo (wpAny_pure ⟨σ', g2, h2⟩)))))))
theorem EV_sub {value slice : Expr} {pos : Pos} {Q : MV → Sto → Prop} (h : EV C A env value ρ σ fun o σ₁ => EV C A env slice ρ σ₁ fun i σ₂ => SUB C A value slice o i σ₂ Q) : EV C A env (.Subscript value slice pos) ρ σ Q := fun ok η s g =>
 Subscript_ (wpK (h ok η s g) (fun o U U g1 h1 => wpK (h1 ok η _ g1) (fun i U U g2 h2 => h2 o i rfl rfl _ _ g2)))
noncomputable def callee (K : Frag) : MV → Bool
 | .builtin _ => true
 | .type _ => true
 | .ref a => keepIn K (.ref a)
 | _ => false
theorem callee_keeps {f : Value} (hf : callee C.K (MV.of f) = true) : ∀ h, C.K.In h → ∃ k, (k = Keeper.frame ∨ k = Keeper.machine ∨ k = Keeper.boundFrame) ∧ Looks C.M h (keeperOf f) k := by
 intro h X
 cases f <;> try exact ft hf
 ·exact ⟨.machine, .inr (.inl rfl), Looks.of_pure rfl⟩
 ·exact ⟨.machine, .inr (.inl rfl), Looks.of_pure rfl⟩
 ·rename_i a
  exact keeps_K (f := .ref a) hf h X
theorem callWith_0 {η : Sto} {pos : Pos} {f : Value} {first : List Value} {Q : MV → Sto → Prop} (hf : callee C.K (MV.of f) = true) {s : Shared} (g : G C σ η s)
  (h : CALL C A (MV.of f) (first.map MV.of) σ Q) :
  wpAny C.M A (callWith pos f first (backTo pos (starEach [] env)) (backToKw pos (keywordEach [] env))) (fun v s' => ∃ σ', G C σ' η s' ∧ Q (MV.of v) σ') nF s :=
 callWith_of rfl (callee_keeps hf) (evalArgs_nil3 ⟨g.X, h f (first ++ []) rfl (by rw [List.append_nil]) _ _ g⟩)
theorem callWith_1 {η : Sto} {pos : Pos} {f : Value} {first : List Value} {e : Expr} {es : List Expr} {Q : MV → Sto → Prop} (ok : EnvOk env) (hf : callee C.K (MV.of f) = true) {s : Shared} (g : G C σ (FR env ρ η) s)
  (h : EVS C A env pos (e :: es) ρ σ fun vs σ₁ => CALL C A (MV.of f) (first.map MV.of ++ vs) σ₁ Q) (he : starEach (e :: es) env = (false, eval e env) :: starEach es env) (hst : (backTo pos (starEach es env)).any (·.1) = false) :
  wpAny C.M A (callWith pos f first (backTo pos (starEach (e :: es) env)) (backToKw pos (keywordEach [] env))) (fun v s' => ∃ σ', G C σ' (FR env ρ η) s' ∧ Q (MV.of v) σ') nF s := by
 have w := h ok η s g
 rw [he] at w ⊢
 refine callWith_of ?_ (callee_keeps hf) (evalArgs_plain (wpK w fun vs s' σ' g1 h1 => ⟨g1.X, h1 f (first ++ vs) rfl (by rw [List.map_append]) _ _ g1⟩))
 show ((false || (backTo pos (starEach es env)).any (·.1)) || false) = false
 rw [hst]; rfl
theorem EV_call {f e : Expr} {es : List Expr} {pos : Pos} {Q : MV → Sto → Prop} (h : EV C A env f ρ σ fun fv σ₁ => callee C.K fv = true ∧ EVS C A env pos (e :: es) ρ σ₁ fun vs σ₂ => CALL C A fv vs σ₂ Q)
  (he : eval (.Call f (e :: es) [] pos) env = (eval f env >>= fun v => callWith pos v [] (backTo pos (starEach (e :: es) env)) (backToKw pos (keywordEach [] env))))
  (h1 : starEach (e :: es) env = (false, eval e env) :: starEach es env) (h2 : (backTo pos (starEach es env)).any (·.1) = false) : EV C A env (.Call f (e :: es) [] pos) ρ σ Q := fun ok η s g => by
 rw [he]
 exact wpAny_bind (wpKa (h ok η s g) (fun fv U U g1 hc h3 => callWith_1 (first := []) ok hc g1 h3 h1 h2))
theorem methodCall_eq {o : Expr} {name : Str} {apos pos : Pos} {ov : Value} {n : Nat} {args : List (Bool × Sem Value)} (hf : methodCallForm n args (backToKw pos (keywordEach [] env)) = true) (hp : (apos.endLine == pos.line) = true) :
  methodCall o name apos pos env ov n args (backToKw pos (keywordEach [] env)) = (holding [ov] (getMethod ov name (do return (← importBound o env).getD true)) >>= fun r => callWith pos r.1 r.2 args (backToKw pos (keywordEach [] env))) := by
 unfold methodCall calleeOf methodCallPos
 rw [hf, hp]
 rfl
theorem EV_meth0 {o : Expr} {name : Str} {apos pos : Pos} {Q : MV → Sto → Prop} (h : EV C A env o ρ σ fun ov σ₁ => METH C A ov name σ₁ fun f first σ₂ => callee C.K f = true ∧ CALL C A f first σ₂ Q)
  (hs : notSuper o) (hp : (apos.endLine == pos.line) = true) : EV C A env (.Call (.Attribute o name apos) [] [] pos) ρ σ Q := fun ok η s g => by
 rw [arm_eval_Call, hs]
 refine wpAny_bind (wpK (h ok η s g) (fun ov U U g1 h1 => wpAny_bind (wpAny_standAt ?_)))
 rw [methodCall_eq rfl hp]
 exact wpAny_bind (wpAny_holding (wpKa (h1 ov _ rfl _ _ g1) (fun r U U g2 hc h2 => callWith_0 hc g2 h2)))
theorem EV_meth {o e : Expr} {es : List Expr} {name : Str} {apos pos : Pos} {Q : MV → Sto → Prop} (h : EV C A env o ρ σ fun ov σ₁ => METH C A ov name σ₁ fun f first σ₂ => callee C.K f = true ∧ EVS C A env pos (e :: es) ρ σ₂ fun vs σ₃ => CALL C A f (first ++ vs) σ₃ Q)
  (hs : notSuper o) (hp : (apos.endLine == pos.line) = true) (hf : methodCallForm ((e :: es).length + ([] : List Keyword).length) (backTo pos (starEach (e :: es) env)) (backToKw pos (keywordEach [] env)) = true)
  (h1 : starEach (e :: es) env = (false, eval e env) :: starEach es env) (h2 : (backTo pos (starEach es env)).any (·.1) = false) : EV C A env (.Call (.Attribute o name apos) (e :: es) [] pos) ρ σ Q := fun ok η s g => by
 rw [arm_eval_Call, hs]
 refine wpAny_bind (wpK (h ok η s g) (fun ov U U g1 h3 => wpAny_bind (wpAny_standAt ?_)))
 rw [methodCall_eq hf hp]
 exact wpAny_bind (wpAny_holding (wpKa (h3 ov _ rfl _ _ g1) (fun r U U g2 hc h4 => callWith_1 ok hc g2 h4 h1 h2)))
theorem EX_nil {Q : MF → Loc → Sto → Prop} (h : Q .next ρ σ) : EX C A env [] ρ σ Q := fun U η s g => wpAny_execs_nil ⟨ρ, σ, g, h⟩
noncomputable def thenX (C : Cx) (A : Around) (env : Env) (rest : List Stmt) (Q : MF → Loc → Sto → Prop) : MF → Loc → Sto → Prop := fun fl ρ σ => match fl with
 | .next => EX C A env rest ρ σ Q
 | f => Q f ρ σ
theorem EX_cons {st : Stmt} {rest : List Stmt} {Q : MF → Loc → Sto → Prop} (h : EX1 C A env st ρ σ (thenX C A env rest Q)) : EX C A env (st :: rest) ρ σ Q := fun ok η s g => by
 refine wpAny_execs_cons (wpK2 (h ok η s g) (fun fl s' ρ' σ' g1 h1 => ?_))
 cases fl with
 | next => exact h1 ok η _ g1
 | brk => exact ⟨ρ', σ', g1, h1⟩
 | cont => exact ⟨ρ', σ', g1, h1⟩
 | ret v => exact ⟨ρ', σ', g1, h1⟩
theorem EX1_expr {e : Expr} {pos : Pos} {Q : MF → Loc → Sto → Prop} (h : EV C A env e ρ σ fun U σ' => Q .next ρ σ') (hi : interactive env = false) (hs : swapsWith e none pos.line env = pure false) : EX1 C A env (.Expr e pos) ρ σ Q := fun ok η s g => by
 rw [exec_Expr env e pos hi hs]
 exact wpAny_bind (wpAny_standAt (wpAny_bind (wpK (h ok η s g) (fun v U σ' g1 h1 => wpAny_dropValue ⟨ρ, σ', g1, h1⟩))))
theorem EX1_ret {e : Expr} {pos : Pos} {Q : MF → Loc → Sto → Prop} (h : EV C A env e ρ σ fun v σ' => Q (.ret v) ρ σ') : EX1 C A env (.Return (some e) pos) ρ σ Q := fun ok η s g =>
 wpAny_Return_some (wpK (h ok η s g) (fun U U σ' g1 h1 => ⟨ρ, σ', g1, h1⟩))
theorem EX1_if {t : Expr} {b o : List Stmt} {pos : Pos} {Q : MF → Loc → Sto → Prop} (h : TST C A env t ρ σ fun k σ' => if k then EX C A env b ρ σ' Q else EX C A env o ρ σ' Q) : EX1 C A env (.If t b o pos) ρ σ Q := fun ok η s g => by
 refine wpAny_If (wpK (h ok η s g) (fun k U σ' g1 h1 => ?_))
 cases k
 ·exact h1 ok η _ g1
 ·exact h1 ok η _ g1
theorem store_loc {η : Sto} {x : Str} {v : Value} {Q : Loc → Sto → Prop} (ok : EnvOk env) {s : Shared} (g : G C σ (FR env ρ η) s) (hk : env.kindOf x = some .local) (h : Q (setL ρ x (MV.of v)) σ) :
  wpAny C.M A (storeName env x v) (fun U s' => ∃ ρ' σ', G C σ' (FR env ρ' η) s' ∧ Q ρ' σ') nF s := by
 have e0 := g.right (FR_loc env ρ η)
 refine xe22 (g.at e0) fun d mA hn hm => ?_
 refine wpAny_storeName_local hk hn (fun h' hn' hs => ⟨_, σ, ?_, h⟩) (by rw [ok.kind]; rfl)
 rw [FR_setL_local ok ρ η hk]
 refine g.setR (g.eta (FR_loc env ρ η)) (g.st.set e0 rfl rfl hs fun d' => ⟨_, hn', fun y => ?_⟩) rfl rfl
 by_cases hy : y = x
 ·subst hy; simp [hk, lookup_setL]
 ·rw [if_neg hy, hm]; simp only [lookup_setL, if_neg hy]
theorem store_cell {η : Sto} {x : Str} {v : Value} {c : Addr} {Q : Loc → Sto → Prop} (ok : EnvOk env) {s : Shared} (g : G C σ (FR env ρ η) s) (hk : env.kindOf x = some .cell) (hc : env.cells.lookup x = some c) (h : Q (setL ρ x (MV.of v)) σ) :
  wpAny C.M A (storeName env x v) (fun U s' => ∃ ρ' σ', G C σ' (FR env ρ' η) s' ∧ Q ρ' σ') nF s := by
 have e0 := g.right (FR_cell ok ρ η hc)
 refine xe22 (g.at e0) fun d v' hn hm => ?_
 refine wpAny_storeName_cell ok.kind hk hc hn fun h' hn' hs => ⟨_, σ, ?_, h⟩
 rw [FR_setL_cell ok ρ η hc]
 exact g.setR (g.eta (FR_cell ok ρ η hc)) (g.st.set e0 rfl rfl hs fun d' => ⟨_, hn', rfl⟩) rfl rfl
noncomputable def storeOk (env : Env) (x : Str) : Bool := env.kindOf x == some .local || (env.kindOf x == some .cell && (env.cells.lookup x).isSome)
theorem store_any {η : Sto} {x : Str} {v : Value} {Q : Loc → Sto → Prop} (ok : EnvOk env) {s : Shared} (g : G C σ (FR env ρ η) s) (hk : storeOk env x = true) (h : Q (setL ρ x (MV.of v)) σ) :
  wpAny C.M A (storeName env x v) (fun U s' => ∃ ρ' σ', G C σ' (FR env ρ' η) s' ∧ Q ρ' σ') nF s := by
 unfold storeOk at hk
 rcases Bool.or_eq_true_iff.mp hk with e | e
 ·exact store_loc ok g (by simpa using e) h
 ·refine xe02 (Bool.and_eq_true_iff.mp e) fun e1 e2 => ?_
  refine xe11 (Option.isSome_iff_exists.mp e2) fun c hc => ?_
  exact store_cell ok g (by simpa using e1) hc h
theorem ASG_name {x : Str} {pos : Pos} {v : MV} {Q : Loc → Sto → Prop} (hk : storeOk env x = true) (h : Q (setL ρ x v) σ) : ASG C A env (.Name x pos) v ρ σ Q := fun ok η s vr hv g => by
 subst hv
 exact assign_Name (store_any ok g hk h)
theorem EX1_asg_name {x : Str} {p1 pos : Pos} {e : Expr} {Q : MF → Loc → Sto → Prop} (h : EV C A env e ρ σ fun v σ' => Q .next (setL ρ x v) σ') (hk : storeOk env x = true) (hs : swapsWith e (some (.Name x p1)) pos.line env = pure false) :
  EX1 C A env (.Assign [.Name x p1] e pos) ρ σ Q := fun ok η s g =>
 wpAny_Assign_Name (wpK (h ok η s g) (fun v s' σ' g1 h1 => store_any (Q := fun ρ' σ' => Q .next ρ' σ') ok g1 hk h1)) hs
theorem EX1_asg_attr {o e : Expr} {attr : Str} {p1 pos : Pos} {Q : MF → Loc → Sto → Prop} (h : EV C A env e ρ σ fun v σ₁ => EV C A env o ρ σ₁ fun ov σ₂ => SETA C A ov attr v σ₂ fun σ₃ => Q .next ρ σ₃) (hs : swapsWith e (some (.Attribute o attr p1)) pos.line env = pure false) :
  EX1 C A env (.Assign [.Attribute o attr p1] e pos) ρ σ Q := fun ok η s g =>
 plainObj_wpAny_Assign_Attribute (wpK (h ok η s g) (fun v s' U g1 h1 => wpK (h1 ok η _ g1) (fun ov U U g2 h2 => wpK (h2 ov v rfl rfl _ _ g2) (fun U U σ' g3 h3 => ⟨ρ, σ', g3, h3⟩)))) hs
theorem EX1_asg_sub {o i e : Expr} {p1 pos : Pos} {Q : MF → Loc → Sto → Prop} (h : EV C A env e ρ σ fun v σ₁ => EV C A env o ρ σ₁ fun ov σ₂ => EV C A env i ρ σ₂ fun iv σ₃ => SETI C A ov iv v σ₃ fun σ₄ => Q .next ρ σ₄) (hs : swapsWith e (some (.Subscript o i p1)) pos.line env = pure false) :
  EX1 C A env (.Assign [.Subscript o i p1] e pos) ρ σ Q := fun ok η s g =>
 wpAny_Assign_Subscript (wpK (h ok η s g) (fun v s' U g1 h1 => wpK (h1 ok η _ g1) (fun ov U U g2 h2 => wpK (h2 ok η _ g2) (fun iv U U g3 h3 => wpK (h3 ov iv v rfl rfl rfl _ _ g3) (fun U U σ' g4 h4 => ⟨ρ, σ', g4, h4⟩))))) hs
noncomputable def INP (C : Cx) (A : Around) (op : Operator) (a b : MV) (σ : Sto) (Q : MV → Sto → Prop) : Prop :=
 ∀ av bv, MV.of av = a → MV.of bv = b → PS C A (inplaceOp op av bv) σ fun v σ' => Q (MV.of v) σ'
theorem EX1_aug_attr {o e : Expr} {attr : Str} {op : Operator} {p1 pos : Pos} {Q : MF → Loc → Sto → Prop}
  (h : EV C A env o ρ σ fun ov σ₁ => GET C A ov attr σ₁ fun old σ₂ => EV C A env e ρ σ₂ fun v σ₃ => INP C A op old v σ₃ fun nw σ₄ => SETA C A ov attr nw σ₄ fun σ₅ => Q .next ρ σ₅) :
  EX1 C A env (.AugAssign (.Attribute o attr p1) op e pos) ρ σ Q := fun ok η s g =>
 wpAny_AugAssign_AttributeAny (wpK (h ok η s g) fun ov U U g1 h1 => wpK (h1 ov rfl _ _ g1) fun old U U g2 h2 => wpK (h2 ok η _ g2) fun v U U g3 h3 => wpK (h3 old v rfl rfl _ _ g3) fun nw U U g4 h4 =>
  wpK (h4 ov nw rfl rfl _ _ g4) fun U U σ' g5 h5 => ⟨ρ, σ', g5, h5⟩)
end
end
section
noncomputable def Back (C : Cx) (η : Sto) (Q : MV → Sto → Prop) : Result → Shared → Prop := fun r s' => match r with
 | .ok (.ret v) => ∃ σ', G C σ' η s' ∧ Q (MV.of v) σ'
 | _ => False
noncomputable def CALLC (C : Cx) (A : Around) (f : MV) (args : List MV) (σ : Sto) (Q : MV → Sto → Prop) : Prop :=
 ∀ fv vs, MV.of fv = f → vs.map MV.of = args → ∀ η s, G C σ η s → codeAny C.M A (.call fv ⟨vs, []⟩) (Back C η Q) s
noncomputable def retV : MF → MV
 | .ret v => v
 | _ => .none
section
variable {C : Cx} {A : Around} {σ : Sto}
theorem CALLC.call {f : MV} {args : List MV} {Q : MV → Sto → Prop} (h : CALLC C A f args σ Q) : CALL C A f args σ Q := fun fv vs e1 e2 η s g =>
 wpAny_call (codeAny_mono (h fv vs e1 e2 η s g) fun r s' q => by rcases r with e | (_ | _ | _ | v) <;> exact q)
theorem bindL_eq (k : Str → Option NameKind) : ∀ (binds : List (Str × Value)) (m : Str → Option Value), (binds.map (·.1)).Nodup → ∀ y, bindL k binds m y = if k y = some .local then (binds.lookup y).or (m y) else m y
 | [], m, _, y => by simp [bindL]
 | (n, v) :: r, m, hn, y => by
  rw [List.map_cons, List.nodup_cons] at hn
  unfold bindL
  rw [bindL_eq k r _ hn.2 y, List.lookup_cons]
  by_cases hy : y = n
  ·subst hy
   have : r.lookup y = none := by
    rw [List.lookup_eq_none_iff]
    intro p hp
    have : p.1 ≠ y := fun e => hn.1 (List.mem_map.mpr ⟨p, hp, e⟩)
    simpa using Ne.symm this
   by_cases hk : k y = some .local
   ·simp [hk, this]
   ·simp [hk]
  ·have hb : (y == n) = false := beq_eq_false_iff_ne.mpr hy
   rw [hb]
   by_cases hk : k n = some .local <;> simp [hk, hy]
theorem bindC_eq (k : Str → Option NameKind) : ∀ (binds : List (Str × Value)) (m : Str → Option Value), (binds.map (·.1)).Nodup → ∀ y, bindC k binds m y = if k y = some .local then m y else (binds.lookup y).or (m y)
 | [], m, _, y => by simp [bindC]
 | (n, v) :: r, m, hn, y => by
  rw [List.map_cons, List.nodup_cons] at hn
  unfold bindC
  rw [bindC_eq k r _ hn.2 y, List.lookup_cons]
  by_cases hy : y = n
  ·subst hy
   have : r.lookup y = none := by
    rw [List.lookup_eq_none_iff]
    intro p hp
    have : p.1 ≠ y := fun e => hn.1 (List.mem_map.mpr ⟨p, hp, e⟩)
    simpa using Ne.symm this
   by_cases hk : k y = some .local
   ·simp [hk]
   ·simp [hk, this]
  ·have hb : (y == n) = false := beq_eq_false_iff_ne.mpr hy
   rw [hb]
   by_cases hk : k n = some .local <;> simp [hk, hy]
theorem lookup_map {l : List (Str × Value)} {y : Str} : (l.lookup y).map MV.of = (l.map fun p => (p.1, MV.of p.2)).lookup y := by
 induction l with
 | nil => rfl
 | cons p r ih =>
  obtain ⟨k, v⟩ := p
  simp only [List.map_cons, List.lookup_cons]
  split <;> simp_all
theorem zip_map {names : List Str} {vs : List Value} : (names.zip vs).map (fun p => (p.1, MV.of p.2)) = names.zip (vs.map MV.of) := by
 induction names generalizing vs with
 | nil => rfl
 | cons n r ih => cases vs with
  | nil => rfl
  | cons v vs => simp [ih]
theorem cellsFrom_names : ∀ (names : List (Str × NameKind)) (n : Nat) (acc : List (Str × Addr)), (cellsFrom n names acc).map (·.1) = ((names.filter fun p => p.2 == .cell).map (·.1)).reverse ++ acc.map (·.1)
 | [], n, acc => by simp [cellsFrom]
 | (x, k) :: r, n, acc => by
  unfold cellsFrom
  by_cases hk : (k == .cell) = true
  ·rw [if_pos hk, cellsFrom_names r]
   simp [hk]
  ·rw [if_neg hk, cellsFrom_names r]
   simp [hk]
theorem FR_add (env : Env) (ρ : Loc) (η : Sto) : (FR env ρ fun U => none).add η = FR env ρ η := by
 funext a
 simp only [Sto.add, FR]
 split
 ·rfl
 ·split <;> rfl
theorem FR_ge {env : Env} {ρ : Loc} {η : Sto} {n : Nat} (h : ∀ c, (c = env.locals ∨ c ∈ env.cells.map (·.2)) → n ≤ c) {a : Addr} (ha : a < n) : FR env ρ η a = η a := by
 unfold FR
 rw [if_neg (fun e => absurd (h a (.inl e)) (Nat.not_le.mpr ha))]
 cases q : env.cells.find? (fun p => p.2 == a) with
 | none => rfl
 | some p =>
  have hpa : p.2 = a := by simpa using List.find?_some q
  exact absurd (h a (.inr (List.mem_map.mpr ⟨p, List.mem_of_find?_eq_some q, hpa⟩))) (Nat.not_le.mpr ha)
noncomputable def scopeOk (scope : Scope) (names : List Str) : Bool :=
 (match scope.kind with | .function => true | _ => false) && !scope.isCoroutine && !scope.isGenerator && decide names.Nodup &&
 names.all (fun x => scope.names.lookup x == some .local || (scope.names.lookup x == some .cell)) &&
 decide ((scope.names.filter fun p => p.2 == .cell).map (·.1)).Nodup && (scope.names.all fun p => p.2 != .cell || scope.names.lookup p.1 == some .cell)
noncomputable abbrev denv (qual : Str) (scope : Scope) (L f : Addr) (cdv : Value) : Env := envX qual scope L f cdv (cellsFrom (L + 1) scope.names [])
theorem CALLC_def {f : Addr} {oc : Value} {od : Option Addr} {osl : Array (Option Value)} {name qual : Str} {params : Arguments} {body : List Stmt} {scope : Scope} {dV kV doc pm cdv ct : Value} {an : Option Addr} {names : List Str} {args : List MV} {n : Nat} {Q : MV → Sto → Prop}
  (ho : C.K.lookup f = some ⟨oc, od, .func (fnOf name qual params body scope dV kV doc pm an cdv ct), osl⟩) (hcd : codeIn C.K cdv qual = true)
  (hb : ∀ vs : List Value, vs.length = names.length → bindArgs (fnOf name qual params body scope dV kV doc pm an cdv ct) ⟨vs, []⟩ = pure (names.zip vs)) (hs : scopeOk scope names = true) (hl : args.length = names.length)
  (b : Bud A (n + 1)) (h : ∀ L, Bud (A.deeper (denv qual scope L f cdv)) n → EX C (A.deeper (denv qual scope L f cdv)) (denv qual scope L f cdv) body (names.zip args) σ fun fl U σ' => Q (retV fl) σ') :
  CALLC C A (.ref f) args σ Q := by
 intro fv vs e1 e2 η s g
 obtain rfl := MV.of_ref e1
 have hlen : vs.length = names.length := by rw [← hl, ← e2, List.length_map]
 simp only [scopeOk, Bool.and_eq_true, Bool.not_eq_true', decide_eq_true_eq] at hs
 obtain ⟨⟨⟨⟨⟨⟨hkind, hco⟩, hgen⟩, hnd⟩, hall⟩, hcn⟩, hcl⟩ := hs
 have hkind : scope.kind = .function := by cases q : scope.kind <;> rw [q] at hkind <;> first | rfl | exact ft hkind
 have hbd := hb vs hlen
 have hzn : ((names.zip vs).map (·.1)) = names := by rw [List.map_fst_zip (by lia)]
 have hX := g.X f _ ho
 refine codeAny_call_cells b.room hX rfl g.T.nolimit (codeRec_of g.X hcd) rfl hbd rfl ?_ ?_ hco hgen hkind
 ·intro x hx
  have hxn : x.1 ∈ names := by rw [← hzn]; exact List.mem_map_of_mem hx
  have := List.all_eq_true.mp hall _ hxn
  rcases Bool.or_eq_true_iff.mp this with q | q
  ·exact .inl (by simpa using q)
  ·have q' : scope.names.lookup x.1 = some .cell := by simpa using q
   exact .inr ⟨q', cellsFrom_some _ _ _ (.inl q')⟩
 ·intro s₁ x
  refine xe22 x.done fun h₁ tk eq2 hk₁ => ?_; obtain rfl := eq2
  have hns := x.toInCall.ns
  dsimp only at hns
  have ok : EnvOk (denv qual scope s.heap.objs.size f cdv) := by
   refine ⟨hkind, rfl, rfl, ?_, ?_, ?_, ?_⟩
   ·have := x.apart
    rw [List.Nodup, List.pairwise_map]; exact this
   ·show ((cellsFrom _ scope.names []).map (·.1)).Nodup
    rw [cellsFrom_names]
    simpa [List.Nodup, List.pairwise_reverse, ne_comm] using hcn
   ·intro hm
    refine xe12 (List.mem_map.mp hm) fun p hp e => ?_
    exact absurd (x.above p.1 p.2 hp) (by rw [e]; exact Nat.lt_irrefl _)
   ·intro p hp hk
    have hpn : p.1 ∈ (cellsFrom (s.heap.objs.size + 1) scope.names []).map (·.1) := List.mem_map_of_mem hp
    rw [cellsFrom_names] at hpn
    simp only [List.map_nil, List.append_nil, List.mem_reverse] at hpn
    refine xe12 (List.mem_map.mp hpn) fun q hq e => ?_
    refine xe02 (List.mem_filter.mp hq) fun hq1 hq2 => ?_
    have z := List.all_eq_true.mp hcl q hq1
    have hq2' : q.2 = .cell := by simpa using hq2
    simp only [hq2', bne_self_eq_false, Bool.false_or, beq_iff_eq] at z
    have hk' : scope.names.lookup p.1 = some .local := hk
    rw [← e, z] at hk'
    cases hk'
  have hrho : ∀ y, ((names.zip vs).lookup y).map MV.of = (names.zip args).lookup y := fun y => by rw [lookup_map, zip_map, e2]
  have hnl := ok.nl
  have gk : G C σ ((FR (denv qual scope s.heap.objs.size f cdv) (names.zip args) fun U => none).add η) { s with heap := h₁, toks := tk } := by
   refine g.over hk₁ (Nat.le_of_lt hns.lt) (fun a o e => ?_) rfl rfl
   by_cases ha : a = s.heap.objs.size
   ·subst ha
    have e' : some (MO.ns fun x => if (denv qual scope s.heap.objs.size f cdv).kindOf x = some .local then (names.zip args).lookup x else none) = some o := (FR_loc _ _ _).symm.trans e
    obtain rfl := si e'
    refine ⟨Nat.le_refl _, rfl, fun d => ⟨_, hns, fun y => ?_⟩⟩
    rw [bindL_eq _ _ _ (by rw [hzn]; exact hnd)]
    simp only [Option.or_none]
    rw [← hrho y]
    show Option.map MV.of (if scope.names.lookup y = some NameKind.local then _ else _) = (if scope.names.lookup y = some NameKind.local then _ else _)
    split <;> rfl
   ·unfold FR at e
    rw [if_neg ha] at e
    split at e
    ·rename_i p hp
     obtain rfl := si e
     have hpm := List.mem_of_find?_eq_some hp
     have hpa : p.2 = a := by simpa using List.find?_some hp
     have habove := x.above p.1 p.2 hpm
     refine ⟨hpa ▸ Nat.le_of_lt habove, rfl, fun d => ?_⟩
     have hcell := x.cell p.1 p.2 (by
      cases z : (callEnvC (fnOf name qual params body scope dV kV doc pm an cdv ct) s.heap.objs.size f).cells.lookup p.1 with
      | none => exact absurd (List.lookup_eq_none_iff.mp z p hpm) (by simp)
      | some c => rw [name_inj ok.nn (mem_of_lookup z) hpm])
     rw [hpa] at hcell
     refine ⟨_, hcell, ?_⟩
     rw [bindC_eq _ _ _ (by rw [hzn]; exact hnd), if_neg (show ¬ (callEnvC (fnOf name qual params body scope dV kV doc pm an cdv ct) s.heap.objs.size f).kindOf p.1 = some .local from ok.nk p hpm)]
     simp only [Option.or_none]
     exact hrho p.1
    ·exact nn e
  have eFR : (FR (denv qual scope s.heap.objs.size f cdv) (names.zip args) fun U => none).add η = FR (denv qual scope s.heap.objs.size f cdv) (names.zip args) η := FR_add _ _ _
  rw [eFR] at gk
  have lt : ∀ a o, η a = some o → a < s.heap.objs.size := fun a o e => g.st.lt (g.right e)
  refine wpAny_mono (h _ b.deeper ok η _ gk) (fun fl s' hh => ?_) fun U U x => x.elim
  refine xe22 hh fun ρ' σ' g' q => ?_
  refine ⟨σ', g'.sub (fun U U e => e) (fun a o e => ?_), ?_⟩
  ·rw [FR_ge (fun c hc => ?_) (lt a o e)]
   ·exact e
   ·rcases hc with rfl | hc
    ·exact Nat.le_refl _
    ·refine xe12 (List.mem_map.mp hc) fun p hp eq2 => ?_; obtain rfl := eq2
     exact Nat.le_of_lt (x.above p.1 p.2 hp)
  ·cases fl <;> exact q
end
end
section
theorem lookIn_ns {o : Obj} {es : Array DictEntry} {ep : Nat} (name : Str) (hd : o.data = .dict es ep) (hk : StrKeys es) : lookIn name o = some (nsFind es name) := by
 unfold lookIn nsFind findBy
 rw [hd]
 dsimp only
 rw [← Array.find?_toList]
 cases q : es.toList.find? (·.key.isStr name) with
 | some e => rfl
 | none =>
  have : es.toList.any (·.refKey) = false := by
   rw [List.any_eq_false]
   intro e he
   refine xe21 (hk e (Array.mem_toList_iff.mp he)) fun n t z => ?_
   simp [DictEntry.refKey, z]
  rw [this]
  rfl
theorem put_ns {h : Heap} {d : Addr} {m : Str → Option Value} {n : Nat} (hn : NsN h d m n) (name : Str) (hs : Int) (tk : Tok) (v : Value) :
  Heap.SameBut d h (h.update d (Obj.putName name hs (.str name tk) v)) ∧
   NsN (h.update d (Obj.putName name hs (.str name tk) v)) d (fun x => if x = name then some v else m x) (if (m name).isSome then n else n + 1) := by
 refine xe35 hn fun o es ep ho hd hk hm hz => ?_
 refine ⟨Heap.SameBut.update .., ?_⟩
 obtain ⟨c, di, dt, sl⟩ := o
 subst hd
 cases hi : es.findIdx? (·.key.isStr name) with
 | some i =>
  refine ⟨_, _, ep, Heap.get?_update_self _ ho (by simp only [Obj.putName_eq, Obj.putNameByArray, hi]; rfl), by simp only [Obj.putName_eq, Obj.putNameByArray, hi]; rfl, hk.modify _ _, fun x => ?_, ?_⟩
  ·show _ = if x = name then some v else m x
   rw [← hm]; exact findBy_modify (fun n v => v.isStr n) Value.isStr_inj es name x v i hi
  ·have : (m name).isSome = true := by
    rw [← hm, nsFind, findBy_of_findIdx?]
    have hi' : (es.findIdx? fun e => (fun n v => Value.isStr v n) name e.key) = some i := hi
    rw [hi']
    have hlt : i < es.size := by
     obtain ⟨h1, _⟩ := Array.findIdx?_eq_some_iff_getElem.mp hi
     exact h1
    simp [hlt]
   rw [this, if_pos rfl, Array.size_modify, hz]
 | none =>
  refine ⟨_, _, ep + 1, Heap.get?_update_self _ ho (by simp only [Obj.putName_eq, Obj.putNameByArray, hi]; rfl), by simp only [Obj.putName_eq, Obj.putNameByArray, hi]; rfl, hk.push _ _ _ _, fun x => ?_, ?_⟩
  ·show _ = if x = name then some v else m x
   rw [← hm]
   exact findBy_push (fun n v => v.isStr n) es name x _ _ v (fun y => by
    show (name == y) = decide (y = name)
    by_cases h : y = name
    ·subst h; simp
    ·have : ¬ name = y := fun e => h e.symm
     simp [h, this]) hi
  ·have : m name = none := by
    rw [← hm, nsFind, findBy_of_findIdx?]
    have hi' : (es.findIdx? fun e => (fun n v => Value.isStr v n) name e.key) = none := hi
    rw [hi']
   rw [this]
   simp [hz]
structure OwnAttr (K : Frag) (D : Addr) (name : Str) : Prop where
 pg : plainGet K D name = true
 hd : hasDictIn K D = true
 fi : findIn K (.ref D) name = some none
structure OwnSet (K : Frag) (D : Addr) (name : Str) : Prop where
 hs : findIn K (.ref D) "__setattr__" = some (some (.builtin "object.__setattr__"))
 po : plainOver K D = true
 hd : hasDictIn K D = true
 tk : takerIn K D name = some none
structure OwnMeth (K : Frag) (D : Addr) (name : Str) (f : Addr) : Prop where
 pg : plainGet K D name = true
 fi : findIn K (.ref D) name = some (some (.ref f))
 fn : isFn K (.ref f) = true
 kp : keepIn K (.ref f) = true
section
variable {C : Cx} {A : Around} {σ : Sto}
theorem inst_open {η : Sto} {s : Shared} {a D : Addr} {fs : Loc} (g : G C σ η s) (e : σ a = some (.inst D fs)) : ∃ d mA o es ep, s.heap.get? d = some o ∧ o.data = .dict es ep ∧ StrKeys es ∧ (∀ n, nsFind es n = mA n) ∧ NsN s.heap d mA fs.length ∧ InstAt s.heap a (instObj D d) D (some o) ∧
  (∀ x, (mA x).map MV.of = fs.lookup x) ∧ fs.all (fun p => p.2.hok) = true ∧
  ∀ h' mA' fs', Heap.SameBut d s.heap h' → NsN h' d mA' fs'.length → (∀ x, (mA' x).map MV.of = fs'.lookup x) → fs'.all (fun p => p.2.hok) = true → ∀ tk, G C (σ.set a (.inst D fs')) η { s with heap := h', toks := tk } := by
 refine xe25 (g.st.instAt (add_left e)) fun d mA h1 h2 h3 h4 h5 => ?_
 refine xe35 (id h2) fun o es ep ho hd hk hm U => ?_
 refine ⟨d, mA, o, es, ep, ho, hd, hk, hm, h2, ⟨h1, rfl, rfl, ho⟩, h3, h4, fun h' mA' fs' k1 k2 k3 k4 tk => g.setS (g.dj a _ e) (s' := { s with heap := h', toks := tk }) (h5 h' mA' fs' k1 k2 k3 k4) rfl rfl⟩
theorem GET_own {a D : Addr} {fs : Loc} {name : Str} {v : MV} {Q : MV → Sto → Prop} (e : σ a = some (.inst D fs)) (hv : fs.lookup name = some v) (ok : OwnAttr C.K D name) (h : Q v σ) : GET C A (.ref a) name σ Q := by
 intro ov eo η s g
 obtain rfl := MV.of_ref eo
 obtain ⟨d, mA, o, es, ep, ho, hd, hk, hm, hn, I, h3, h4, _⟩ := inst_open g e
 have := h3 name
 rw [hv] at this
 refine xe12 (Option.map_eq_some_iff.mp this) fun v' e1 eq2 => ?_; obtain rfl := eq2
 have hl : lookIn name o = some (some v') := by rw [lookIn_ns name hd hk, hm, e1]
 exact get_value g.X I (plainGet_of ok.pg).1 (findObj_own ok.hd ok.fi rfl hl) (MV.hok_handed (hok_of_lookup h4 hv)) ⟨σ, g.tok, h⟩
theorem SETA_own {a D : Addr} {fs : Loc} {name : Str} {v : MV} {Q : Sto → Prop} (e : σ a = some (.inst D fs)) (hz0 : fs.length ≤ 1000) (hv : v.hok = true) (ok : OwnSet C.K D name) (h : Q (σ.set a (.inst D (setL fs name v)))) : SETA C A (.ref a) name v σ Q := by
 intro ov vr eo ev η s g
 obtain rfl := MV.of_ref eo
 obtain ⟨d, mA, o, es, ep, ho, hd, hk, hm, hn, I, h3, h4, h5⟩ := inst_open g e
 have g' := g.tok (t := s.toks + 1)
 refine set_plain g.X I ok.hs (osa_open (s := { s with toks := s.toks + 1 }) g.X I ok.po ok.tk fun b => ?_)
 refine xe12 (any_some ok.hd) fun cd hc hd' => ?_
 refine wpAny_bind (wpAny_pure (wpAny_bind (wpAny_bind (wpAny_loadPart (s := { s with toks := s.toks + 1 }) I.at_ (wpAny_bind ((looks_clsIn (M := C.M) g'.X hc).here ?_))))))
 rw [hd']
 refine wpAny_pure (a := some d) (wpAny_bind (wpAny_pure (wpAny_bind ?_)))
 refine xe02 (put_ns hn name (PyData.keyHash C.w.params name) (s.toks + 1) vr) fun k1 k2 => ?_
 have e' : (mA name).isSome = (fs.lookup name).isSome := by rw [← h3 name, Option.isSome_map]
 rw [e', ← setL_length fs name v] at k2
 refine xe35 (id k2) fun o' es' ep' ho' hd2 U U hz' => ?_
 have hz : (setL fs name v).length ≤ 1001 := by
  rw [setL_length]; split <;> lia
 unfold nsSet
 unfold strHash
 refine wpAny_bind (wpAny_bind (wpAny_askSetting (wpAny_pure (wpAny_bind (wpAny_mkText (wpAny_bind (wpAny_loadPart ho ?_)))))))
 rw [hd]
 dsimp only
 have c : (!es.any (·.key.isStr name) && es.any (·.refKey)) = false := by
  have : es.any (·.refKey) = false := by
   rw [Array.any_eq_false']; intro e he; refine xe21 (hk e he) fun n t z => ?_; simp [DictEntry.refKey, z]
  rw [this, Bool.and_false]
 rw [aRefKeyMayBeTheName_at, c]
 refine wpAny_updatePart ho ?_
 refine wpAny_bind (wpAny_lookBehind ho' (by rw [hd2]; exact pastItsLine_dict (by rw [hz', sizeLine_eq]; lia)) ?_)
 refine wpAny_pure ⟨_, h5 _ _ (setL fs name v) k1 k2 (fun x => ?_) (setL_all h4 hv) _, h⟩
 by_cases hx : x = name
 ·subst hx; simp [lookup_setL, ev]
 ·simp only [if_neg hx, lookup_setL, h3]
theorem METH_own {a D f : Addr} {fs : Loc} {name : Str} {Q : MV → List MV → Sto → Prop} (e : σ a = some (.inst D fs)) (hv : fs.lookup name = none) (ok : OwnMeth C.K D name f) (h : Q (.ref f) [.ref a] σ) : METH C A (.ref a) name σ Q := by
 intro ov pl eo η s g
 obtain rfl := MV.of_ref eo
 obtain ⟨d, mA, o, es, ep, ho, hd, hk, hm, hn, I, h3, h4, _⟩ := inst_open g e
 have := h3 name
 rw [hv] at this
 have e1 : mA name = none := Option.map_eq_none_iff.mp this
 have hl : lookIn name o = some none := by rw [lookIn_ns name hd hk, hm, e1]
 exact method_fn g.X I (plainGet_of ok.pg).1 (plainGet_of ok.pg).2 ok.fi (beq_iff_eq.mp ok.fn) (by show (lookIn name o).map _ = _; rw [hl]; rfl) ⟨σ, g, h⟩
structure OwnProp (K : Frag) (D : Addr) (name : Str) (p fget : Addr) (rest : List Value) : Prop where
 pg : plainGet K D name = true
 hd : hasDictIn K D = true
 fi : findIn K (.ref D) name = some (some (.ref p))
 hn : specialIn K (.ref p) "__get__" = some (some (.builtin "property.__get__"))
 tk : takesIn K (.ref p) = some true
 rc : recIn K p "property" = some (.ref fget :: rest)
theorem GET_prop {a D p fget : Addr} {fs : Loc} {name : Str} {rest : List Value} {Q : MV → Sto → Prop} (e : σ a = some (.inst D fs)) (ok : OwnProp C.K D name p fget rest) (h : CALLC C A.in1 (.ref fget) [.ref a] σ fun v σ' => v.hok = true ∧ Q v σ') : GET C A (.ref a) name σ Q := by
 intro ov eo η s g
 obtain rfl := MV.of_ref eo
 obtain ⟨d, mA, o, es, ep, ho, hd, hk, hm, hn, I, h3, h4, _⟩ := inst_open g e
 refine get_bind g.X I (plainGet_of ok.pg).1 (findObj_data (by refine xe12 (any_some ok.hd) fun cd hc U => ?_; rw [hc]; rfl) ok.fi ok.hn ok.tk) (plainGet_of ok.pg).2 (wpAny_call (prop_get (s := { s with toks := s.toks + 1 }) g.X ok.rc ?_))
 refine codeAny_mono (h (.ref fget) [.ref a] rfl rfl η _ g.tok) fun r s' q => ?_
 rcases r with _ | (_ | _ | _ | v) <;> first | exact q.elim | skip
 refine xe13 q fun σ' g' h1 h2 => ?_
 show wpAny _ _ (handedOut v) _ _ _
 rw [handedOut_of (MV.hok_handed h1)]
 exact wpAny_pure ⟨σ', g', h2⟩
theorem CALL_make {D fI : Addr} {args : List MV} {n : Nat} {Q : MV → Sto → Prop} (hm : makesIn C.K D = true) (hi : findIn C.K (.ref D) "__init__" = some (some (.ref fI))) (hf : typeIn C.K (.ref fI) = some (.type "function")) (b : Bud A (n + 1))
  (h : ∀ x A', σ x = none → Bud A' n → CALLC C A' (.ref fI) (.ref x :: args) (σ.set x (.inst D [])) fun r σ' => r = .none ∧ Q (.ref x) σ') : CALL C A (.ref D) args σ Q := by
 intro fv vs e1 e2 η s g
 obtain rfl := MV.of_ref e1
 refine wpAny_call ?_
 obtain ⟨hh, gg, d, t, os⟩ := s
 have Y : Makes C.M hh D := makes_of g.X hm
 refine make_core Y (looks_findIn g.X hi) (fun self => bind_fn g.X self hf) (.inl rfl) ?_
 have hx := g.fresh (a := hh.objs.size + 1) (Nat.le_succ _)
 have k : ∀ b o, hh.get? b = some o → ((hh.push emptyDict).push (instObj D hh.objs.size)).get? b = some o := fun b o e => Heap.get?_push_of_some _ (Heap.get?_push_of_some _ e)
 have gx : ((hh.push emptyDict).push (instObj D hh.objs.size)).get? (hh.objs.size + 1) = some (instObj D hh.objs.size) := by
  have := Heap.get?_push_size (hh.push emptyDict) (o := instObj D hh.objs.size) rfl
  rwa [Heap.size_push] at this
 have gd : NsN ((hh.push emptyDict).push (instObj D hh.objs.size)) hh.objs.size (fun U => none) 0 :=
  ⟨_, #[], 0, Heap.get?_push_of_some _ (Heap.get?_push_size hh (o := emptyDict) rfl), rfl, fun U he => by simp at he, fun U => rfl, rfl⟩
 have g1 : G C (σ.set (hh.objs.size + 1) (.inst D [])) η ⟨(hh.push emptyDict).push (instObj D hh.objs.size), gg, d, t, os⟩ :=
  g.setS hx.2 (g.st.newInst (d := hh.objs.size) k (by show hh.objs.size ≤ _; rw [Heap.size_push, Heap.size_push]; lia) (Nat.le_succ _) (Nat.le_refl _) (Nat.ne_of_lt (Nat.lt_succ_self _)) ⟨gx, _, gd, fun U => rfl, rfl⟩) rfl rfl
 refine codeAny_mono (h _ _ hx.1 b.make (.ref fI) (.ref (hh.objs.size + 1) :: vs) rfl (by rw [List.map_cons, e2]; rfl) η _ g1) fun r s' q => ?_
 rcases r with _ | (_ | _ | _ | v) <;> first | exact q.elim | skip
 refine xe13 q fun σ' g' h1 h2 => ?_
 exact ⟨MV.of_none h1, σ', g', h2⟩
end
end
section
theorem subscripted_any (slice : Expr) (o i : Value) : ∃ ops, subscripted slice false o i = operate ops (getItem o i) := by
 cases slice with
 | Slice _ _ st _ => cases st <;> exact ⟨_, rfl⟩
 | _ => exact ⟨_, rfl⟩
section
variable {C : Cx} {A : Around} {σ : Sto}
theorem list_open {η : Sto} {s : Shared} {a : Addr} {xs : List MV} (g : G C σ η s) (e : σ a = some (.list xs)) : ∃ its n, s.heap.get? a = some (listOf its n) ∧ its.toList.map MV.of = xs := (g.atS e).choose_spec
theorem tuple_open {η : Sto} {s : Shared} {a : Addr} {xs : List MV} (g : G C σ η s) (e : σ a = some (.tuple xs)) : ∃ its n, s.heap.get? a = some ⟨.type "tuple", none, .seq its n, #[]⟩ ∧ its.toList.map MV.of = xs := (g.atS e).choose_spec
theorem list_size {its : Array Value} {xs : List MV} (h : its.toList.map MV.of = xs) : its.size = xs.length := by rw [← h, List.length_map, Array.length_toList]
theorem list_get {its : Array Value} {xs : List MV} {i : Nat} {v : MV} (h : its.toList.map MV.of = xs) (e : xs[i]? = some v) : ∃ vr, its[i]? = some vr ∧ MV.of vr = v := by
 rw [← h, List.getElem?_map] at e
 refine xe12 (Option.map_eq_some_iff.mp e) fun vr e1 e2 => ?_
 exact ⟨vr, by rw [← Array.getElem?_toList]; exact e1, e2⟩
theorem list_turn {η : Sto} {s : Shared} {a : Addr} {xs : List MV} {its : Array Value} {n : Nat} {f : Array Value → Array Value} {xs' : List MV} (g : G C σ η s) (e : σ a = some (.list xs)) (ho : s.heap.get? a = some (listOf its n)) (hf : (f its).toList.map MV.of = xs') :
  G C (σ.set a (.list xs')) η { s with heap := s.heap.update a (Obj.mapSeq f) } :=
 g.setS (g.dj a _ e) (s' := { s with heap := s.heap.update a (Obj.mapSeq f) }) (g.st.set (add_left e) rfl rfl (Heap.SameBut.update ..) fun d => ⟨_, _, IsL.update ho f, hf⟩) rfl rfl
theorem METH_list {a : Addr} {xs : List MV} {name : Str} {id : String} {Q : MV → List MV → Sto → Prop} (e : σ a = some (.list xs)) (slot : Slot "list" name id) (hty : typeOf (.builtin id) = pure (.type "method_descriptor")) (h : Q (.builtin id) [.ref a] σ) : METH C A (.ref a) name σ Q := by
 intro ov pl eo η s g
 obtain rfl := MV.of_ref eo
 refine xe22 (list_open g e) fun its n ho U => ?_
 exact getMethod_builtin ⟨_, ho, rfl⟩ PySem.F.plainAttrs_list slot hty (fun a e => by cases e; exact ⟨_, ho, rfl⟩) ⟨σ, g, h⟩
theorem METH_append {a : Addr} {xs : List MV} {Q : MV → List MV → Sto → Prop} (e : σ a = some (.list xs)) (h : Q (.builtin "list.append") [.ref a] σ) : METH C A (.ref a) (Str.ofString "append") σ Q := METH_list e PySem.F.slot_list_append PySem.F.type_list_append h
theorem METH_pop {a : Addr} {xs : List MV} {Q : MV → List MV → Sto → Prop} (e : σ a = some (.list xs)) (h : Q (.builtin "list.pop") [.ref a] σ) : METH C A (.ref a) (Str.ofString "pop") σ Q := METH_list e PySem.F.slot_list_pop PySem.F.type_list_pop h
theorem METH_extend {a : Addr} {xs : List MV} {Q : MV → List MV → Sto → Prop} (e : σ a = some (.list xs)) (h : Q (.builtin "list.extend") [.ref a] σ) : METH C A (.ref a) (Str.ofString "extend") σ Q := METH_list e PySem.F.slot_list_extend PySem.F.type_list_extend h
theorem args1 {vs : List Value} {a : MV} (h : vs.map MV.of = [a]) : ∃ x, vs = [x] ∧ MV.of x = a := by
 refine xe23 (List.map_eq_cons_iff.mp h) fun x r e1 e2 e3 => ?_
 exact ⟨x, by rw [e1, List.map_eq_nil_iff.mp e3], e2⟩
theorem args2 {vs : List Value} {a b : MV} (h : vs.map MV.of = [a, b]) : ∃ x y, vs = [x, y] ∧ MV.of x = a ∧ MV.of y = b := by
 refine xe23 (List.map_eq_cons_iff.mp h) fun x r e1 e2 e3 => ?_
 refine xe12 (args1 e3) fun y e4 e5 => ?_
 exact ⟨x, y, by rw [e1, e4], e2, e5⟩
theorem args3 {vs : List Value} {a b c : MV} (h : vs.map MV.of = [a, b, c]) : ∃ x y z, vs = [x, y, z] ∧ MV.of x = a ∧ MV.of y = b ∧ MV.of z = c := by
 refine xe23 (List.map_eq_cons_iff.mp h) fun x r e1 e2 e3 => ?_
 refine xe23 (args2 e3) fun y z e4 e5 e6 => ?_
 exact ⟨x, y, z, by rw [e1, e4], e2, e5, e6⟩
theorem map_erase {α β : Type} (f : α → β) : ∀ (l : List α) (k : Nat), (l.eraseIdx k).map f = (l.map f).eraseIdx k
 | [], _ => rfl
 | _ :: _, 0 => rfl
 | x :: r, k + 1 => by simp [map_erase f r k]
theorem CALL_append {a : Addr} {xs : List MV} {v : MV} {Q : MV → Sto → Prop} (e : σ a = some (.list xs)) (hz : xs.length ≤ 1000000) (h : Q .none (σ.set a (.list (xs ++ [v])))) : CALL C A (.builtin "list.append") [.ref a, v] σ Q := by
 intro fv vs e1 e2 η s g
 obtain rfl := MV.of_builtin e1
 refine xe23 (args2 e2) fun x y eq2 ex ey => ?_; obtain rfl := eq2
 obtain rfl := MV.of_ref ex
 refine xe22 (list_open g e) fun its n ho hm => ?_
 refine append_at ho (fun h' hs ho' => ⟨_, ?_, h⟩) (le_line (by rw [list_size hm]; exact Nat.le_trans hz (Nb rfl)))
 exact g.setS (g.dj a _ e) (s' := { s with heap := h' }) (g.st.set (add_left e) rfl rfl hs fun d => ⟨_, _, ho', by simp [hm, ey]⟩) rfl rfl
theorem pop_out {its : Array Value} {xs ys : List MV} {v : MV} (hm : its.toList.map MV.of = xs ++ v :: ys) (hz : xs.length + ys.length ≤ 1000000) : (its.eraseIdxIfInBounds xs.length).toList.map MV.of = xs ++ ys ∧ xs.length < its.size ∧ its.size ≤ sizeLine ∧ ∃ y, its[xs.length]? = some y ∧ MV.of y = v := by
 have hs := list_size hm
 rw [List.length_append, List.length_cons, ← Nat.add_assoc] at hs
 refine ⟨?_, ?_, ?_, list_get hm ?_⟩
 ·rw [Array.toList_eraseIdxIfInBounds, map_erase, hm, List.eraseIdx_append_of_length_le (Nat.le_refl _), Nat.sub_self]; rfl
 ·rw [hs]; exact Nat.lt_succ_of_le (Nat.le_add_right ..)
 ·rw [hs]; exact le_line (Nat.le_trans (Nat.add_le_add_right hz 1) (Nb rfl))
 ·rw [List.getElem?_append_right (Nat.le_refl _), Nat.sub_self]; rfl
theorem CALL_pop {a : Addr} {xs : List MV} {v : MV} {Q : MV → Sto → Prop} (e : σ a = some (.list (xs ++ [v]))) (hz : xs.length ≤ 1000000) (h : Q v (σ.set a (.list xs))) : CALL C A (.builtin "list.pop") [.ref a] σ Q := by
 intro fv vs e1 e2 η s g
 obtain rfl := MV.of_builtin e1
 refine xe12 (args1 e2) fun x eq1 ex => ?_; obtain rfl := eq1
 obtain rfl := MV.of_ref ex
 refine xe22 (list_open g e) fun its n ho hm => ?_
 obtain ⟨h1, _, h3, y, hy, rfl⟩ := pop_out hm hz
 have hk : its.size - 1 = xs.length := by rw [list_size hm, List.length_append]; rfl
 rw [← hk] at h1 hy
 exact call_meets PySem.F.slot_list_pop ⟨_, ho, rfl⟩ PySem.F.entry_list_pop (PySem.F.args_list_pop_1 _) (PySem.MeetsSeq.list_pop_last a its n y hy h3) ⟨ho, ⟨_, list_turn g e ho (xs' := xs) (h1.trans (List.append_nil _)), h⟩⟩
theorem seqIdx {i : Int} {n : Nat} (h0 : 0 ≤ i) (h : i.toNat < n) : seqIndex? i n = some i.toNat := by
 have h1 : ¬ (i < 0) := Int.not_lt.mpr h0
 have h2 : i < (n : Int) := (Int.toNat_lt h0).mp h
 unfold seqIndex?
 dsimp only
 rw [if_neg h1]
 exact if_pos (Bool.and_eq_true_iff.mpr ⟨decide_eq_true h0, decide_eq_true h2⟩)
theorem fits_nat {n : Nat} (h : n ≤ 1000000) : List.listFitsIndex (n : Int) = true := by
 unfold List.listFitsIndex
 rw [Bool.and_eq_true_iff]
 exact ⟨decide_eq_true (Int.le_trans (b := 0) (by decide) (Int.natCast_nonneg _)), decide_eq_true (Int.lt_of_le_of_lt (b := (1000000 : Nat)) (Int.ofNat_le.mpr h) (by decide))⟩
theorem CALL_popAt {a : Addr} {xs ys : List MV} {v : MV} {i : Int} {Q : MV → Sto → Prop} (e : σ a = some (.list (xs ++ v :: ys))) (hi : i = xs.length) (hz : xs.length + ys.length ≤ 1000000) (h : Q v (σ.set a (.list (xs ++ ys)))) : CALL C A (.builtin "list.pop") [.ref a, .int i] σ Q := by
 intro fv vs e1 e2 η s g
 obtain rfl := MV.of_builtin e1
 refine xe23 (args2 e2) fun x z eq2 ex ez => ?_; obtain rfl := eq2
 obtain rfl := MV.of_ref ex
 refine xe11 (MV.of_int ez) fun t eq1 => ?_; obtain rfl := eq1
 refine xe22 (list_open g e) fun its n ho hm => ?_
 obtain ⟨h1, h2, h3, y, hy, rfl⟩ := pop_out hm hz
 have h4 : List.listFitsIndex i = true := by rw [hi]; exact fits_nat (Nat.le_trans (Nat.le_add_right ..) hz)
 have h5 : seqIndex? i its.size = some xs.length := by rw [hi]; exact seqIdx (Int.natCast_nonneg _) h2
 exact call_meets PySem.F.slot_list_pop ⟨_, ho, rfl⟩ PySem.F.entry_list_pop (PySem.F.args_list_pop_2 _ _) (PySem.MeetsSeq.list_pop_at a its n i t xs.length y h4 h5 hy h3) ⟨ho, ⟨_, list_turn g e ho (xs' := xs ++ ys) h1, h⟩⟩
theorem CALL_extend {a b : Addr} {xs ys : List MV} {Q : MV → Sto → Prop} (e : σ a = some (.list xs)) (e' : σ b = some (.list ys)) (hz : xs.length ≤ 1000000) (hz' : ys.length ≤ 1000000) (h : Q .none (σ.set a (.list (xs ++ ys)))) : CALL C A (.builtin "list.extend") [.ref a, .ref b] σ Q := by
 intro fv vs e1 e2 η s g
 obtain rfl := MV.of_builtin e1
 refine xe23 (args2 e2) fun x z eq2 ex ez => ?_; obtain rfl := eq2
 obtain rfl := MV.of_ref ex
 obtain rfl := MV.of_ref ez
 refine xe22 (list_open g e) fun its n ho hm => ?_
 refine xe22 (list_open g e') fun its2 n2 ho2 hm2 => ?_
 have h1 := list_size hm
 have h2 := list_size hm2
 refine call_meets PySem.F.slot_list_extend ⟨_, ho, rfl⟩ PySem.F.entry_list_extend (PySem.F.args_list_extend_2 _ _) (PySem.AutoSeq1.list_extend_list_list_0 a its n b its2 n2 ?_ (le_line (by lia)) (by rw [sizeLine_eq]; lia)) ⟨ho, ho2, ⟨_, list_turn g e ho (xs' := xs ++ ys) ?_, h⟩⟩
 ·have : List.listTooLong (its.size + its2.size) = false := by unfold List.listTooLong; rw [sizeLine_eq]; simp; lia
  rw [this, Bool.and_false]; exact Bool.false_ne_true
 ·simp [hm, hm2]
theorem CALL_len_list {a : Addr} {xs : List MV} {Q : MV → Sto → Prop} (e : σ a = some (.list xs)) (hz : xs.length ≤ 1000000) (h : Q (.int xs.length) σ) : CALL C A (.builtin "len") [.ref a] σ Q := by
 intro fv vs e1 e2 η s g
 obtain rfl := MV.of_builtin e1
 refine xe12 (args1 e2) fun x eq1 ex => ?_; obtain rfl := eq1
 obtain rfl := MV.of_ref ex
 refine xe22 (list_open g e) fun its n ho hm => ?_
 have h1 := list_size hm
 exact call_len_list ⟨_, ho, rfl, n, rfl⟩ (by lia) ⟨σ, g.tok, by rw [h1]; exact h⟩
theorem SUB_list {value slice : Expr} {a : Addr} {xs : List MV} {i : Int} {v : MV} {Q : MV → Sto → Prop} (e : σ a = some (.list xs)) (h0 : 0 ≤ i) (hi : i < 2 ^ 63) (hv : xs[i.toNat]? = some v) (h : Q v σ) : SUB C A value slice (.ref a) (.int i) σ Q := by
 intro ov iv eo ei η s g
 obtain rfl := MV.of_ref eo
 refine xe11 (MV.of_int ei) fun t eq1 => ?_; obtain rfl := eq1
 refine xe22 (list_open g e) fun its n ho hm => ?_
 refine xe12 (list_get hm hv) fun y hy eq2 => ?_; obtain rfl := eq2
 refine xe11 (subscripted_any slice (.ref a) (.int i t)) fun ops hs => ?_
 have hL : s.heap.IsList a its := ⟨_, ho, rfl, n, rfl⟩
 exact tail_any hL.typeIs slot_list_getitem.lookup (wpAny_getItem_list hL h0 hi hy ⟨σ, g, h⟩) hs
theorem SUB_tuple {value slice : Expr} {a : Addr} {xs : List MV} {i : Int} {v : MV} {Q : MV → Sto → Prop} (e : σ a = some (.tuple xs)) (h0 : 0 ≤ i) (hi : i < 2 ^ 63) (hv : xs[i.toNat]? = some v) (h : Q v σ) : SUB C A value slice (.ref a) (.int i) σ Q := by
 intro ov iv eo ei η s g
 obtain rfl := MV.of_ref eo
 refine xe11 (MV.of_int ei) fun t eq1 => ?_; obtain rfl := eq1
 refine xe22 (tuple_open g e) fun its n ho hm => ?_
 refine xe12 (list_get hm hv) fun y hy eq2 => ?_; obtain rfl := eq2
 refine xe11 (subscripted_any slice (.ref a) (.int i t)) fun ops hs => ?_
 have hL : IsTup s.heap a its := ⟨_, ho, rfl, n, rfl⟩
 have hlt : i.toNat < its.size := by
  rw [list_size hm]; exact (Gs hv).1
 exact tail_any hL.typeIs slot_tuple_getitem.lookup (getItem_tuple hL (Int.le_trans (by decide) h0) hi (j := i.toNat) (seqIdx h0 hlt) hy ⟨σ, g, h⟩) hs
noncomputable def EVO (C : Cx) (A : Around) (env : Env) (e : Option Expr) (ρ : Loc) (σ : Sto) (Q : MV → Sto → Prop) : Prop := match e with
 | none => Q .none σ
 | some e => EV C A env e ρ σ Q
noncomputable def SLC (C : Cx) (A : Around) (o l u st : MV) (σ : Sto) (Q : MV → Sto → Prop) : Prop :=
 ∀ η s ov lv uv sv, MV.of ov = o → MV.of lv = l → MV.of uv = u → MV.of sv = st → G C σ η s → ∀ value slice,
  wpAny C.M A (subscriptTail value slice ov (.ref s.heap.objs.size)) (fun v s' => ∃ σ', G C σ' η s' ∧ Q (MV.of v) σ') nF { s with heap := s.heap.push { cls := .type "slice", data := .fields #[lv, uv, sv] } }
theorem EVO_wp {env : Env} {ρ : Loc} {e : Option Expr} {Q : MV → Sto → Prop} (h : EVO C A env e ρ σ Q) (ok : EnvOk env) (η : Sto) : WP C A (valueOrNone (evalOpt e env)) σ (FR env ρ η) fun v σ' => Q (MV.of v) σ' := by
 cases e with
 | none => exact fun s g => wpAny_pure ⟨σ, g, h⟩
 | some e => exact h ok η
theorem EV_slice {env : Env} {ρ : Loc} {value : Expr} {lo up st : Option Expr} {p pos : Pos} {Q : MV → Sto → Prop}
  (h : EV C A env value ρ σ fun o σ₁ => EVO C A env lo ρ σ₁ fun l σ₂ => EVO C A env up ρ σ₂ fun u σ₃ => EVO C A env st ρ σ₃ fun t σ₄ => SLC C A o l u t σ₄ Q) : EV C A env (.Subscript value (.Slice lo up st p) pos) ρ σ Q := fun ok η s g => by
 refine Subscript_ (wpK (h ok η s g) (fun o s₁ U g1 h1 => ?_))
 rw [arm_eval_Slice]
 refine wpAny_bind (wpK (EVO_wp h1 ok η _ g1) (fun l U U g2 h2 => wpAny_bind (wpAny_holding (wpK (EVO_wp h2 ok η _ g2) (fun u U U g3 h3 => wpAny_bind (wpAny_holding (wpK (EVO_wp h3 ok η _ g3) (fun t U U g4 h4 => ?_))))))))
 unfold newFields
 exact wpAny_newObj_type (h4 _ _ o l u t rfl rfl rfl rfl g4 _ _) (by unfold sizeOk; simp [sizeLine_eq])
theorem part_of {v : Value} {m : MV} {p : Option Int} (e : MV.of v = m) (h : (m = .none ∧ p = none) ∨ (∃ i, m = .int i ∧ p = some i)) : IsPart v p := by
 rcases h with ⟨rfl, rfl⟩ | ⟨i, rfl, rfl⟩
 ·rw [MV.of_none e]; exact .none
 ·refine xe11 (MV.of_int e) fun t eq1 => ?_; obtain rfl := eq1; exact .int i t
theorem SLC_list {a : Addr} {xs ys : List MV} {l u t : MV} {lo hi st : Option Int} {Q : MV → Sto → Prop} (e : σ a = some (.list xs)) (hz : xs.length ≤ 1000000)
  (hl : (l = .none ∧ lo = none) ∨ (∃ i, l = .int i ∧ lo = some i)) (hu : (u = .none ∧ hi = none) ∨ (∃ i, u = .int i ∧ hi = some i)) (ht : (t = .none ∧ st = none) ∨ (∃ i, t = .int i ∧ st = some i)) (h0 : st ≠ some 0)
  (hp : ∀ its : Array Value, its.toList.map MV.of = xs → (slicePick its lo hi st).toList.map MV.of = ys)
  (h : ∀ d, σ d = none → Q (.ref d) (σ.set d (.list ys))) : SLC C A (.ref a) l u t σ Q := by
 intro η s ov lv uv sv eo el eu es g value slice
 obtain rfl := MV.of_ref eo
 refine xe22 (list_open g e) fun its n ho hm => ?_
 refine xe11 (subscripted_any slice (.ref a) (.ref s.heap.objs.size)) fun ops hs => ?_
 have hL : Heap.IsList (s.heap.push { cls := .type "slice", data := .fields #[lv, uv, sv] }) a its := ⟨_, Heap.get?_push_of_some _ ho, rfl, n, rfl⟩
 have g' : G C σ η { s with heap := s.heap.push { cls := .type "slice", data := .fields #[lv, uv, sv] } } := g.grow (fun b ob e => Heap.get?_push_of_some _ e) (by rw [Heap.size_push]; exact Nat.le_succ _) rfl rfl
 refine tail_any (s := { s with heap := s.heap.push { cls := .type "slice", data := .fields #[lv, uv, sv] } }) hL.typeIs slot_list_getitem.lookup (wpAny_getItem_list_slice hL (Heap.IsSliceOf.new ..) (part_of el hl) (part_of eu hu) (part_of es ht) h0 ?_ (le_line (by rw [list_size hm]; exact Nat.le_trans hz (Nb rfl)))) hs
 have := new_seq (o := .list ys) (ob := { cls := .type "list", data := .seq (slicePick its lo hi st) }) g' rfl rfl (fun h' e' d => show ∃ its n, _ from ⟨_, 0, e', hp its hm⟩)
 exact ⟨_, this, h _ (g'.fresh (Nat.le_refl _)).1⟩
theorem SLC_rev {a : Addr} {xs : List MV} {Q : MV → Sto → Prop} (e : σ a = some (.list xs)) (hz : xs.length ≤ 1000000) (h : ∀ d, σ d = none → Q (.ref d) (σ.set d (.list xs.reverse))) : SLC C A (.ref a) .none .none (.int (-1)) σ Q :=
 SLC_list (st := some (-1)) e hz (.inl ⟨rfl, rfl⟩) (.inl ⟨rfl, rfl⟩) (.inr ⟨-1, rfl, rfl⟩) (by decide) (fun its hm => by rw [krv_pick]; simp [← hm]) h
theorem clipN (k n : Nat) : max 0 (min (if (k : Int) < 0 then (k : Int) + n else k) n) = ((min k n : Nat) : Int) := by
 rw [if_neg (Int.not_lt.mpr (Int.natCast_nonneg k))]
 rcases Nat.le_total k n with h | h
 ·rw [Int.min_eq_left (Int.ofNat_le.mpr h), Nat.min_eq_left h]; exact Int.max_eq_right (Int.natCast_nonneg _)
 ·rw [Int.min_eq_right (Int.ofNat_le.mpr h), Nat.min_eq_right h]; exact Int.max_eq_right (Int.natCast_nonneg _)
theorem pick_drop {its : Array Value} {xs : List MV} {k : Nat} (hm : its.toList.map MV.of = xs) : (slicePick its (some (k : Int)) none none).toList.map MV.of = xs.drop k := by
 rw [kmk_pick_nat (lo := some (k : Int)) (hi := none) its (a := min k its.size) (b := its.size) (congrArg (fun x : Int => (x, (its.size : Int), (1 : Int))) (clipN k its.size))]
 show ((its.toList.drop (min k its.size)).take (its.size - min k its.size)).map MV.of = _
 rw [← Array.length_toList, kmk_drop_min, List.take_of_length_le, List.map_drop, hm]
 rw [List.length_drop]
 exact Nat.sub_le_sub_left (Nat.min_le_left ..) _
theorem pick_take {its : Array Value} {xs : List MV} {k : Nat} (hm : its.toList.map MV.of = xs) : (slicePick its none (some (k : Int)) none).toList.map MV.of = xs.take k := by
 rw [kmk_pick_nat (lo := none) (hi := some (k : Int)) its (a := 0) (b := min k its.size) (congrArg (fun x : Int => ((0 : Int), x, (1 : Int))) (clipN k its.size))]
 show ((its.toList.drop 0).take (min k its.size - 0)).map MV.of = _
 rw [List.drop_zero, Nat.sub_zero, ← Array.length_toList, kmk_take_min, List.map_take, hm]
theorem SLC_drop {a : Addr} {xs : List MV} {k : Nat} {i : Int} {Q : MV → Sto → Prop} (e : σ a = some (.list xs)) (hz : xs.length ≤ 1000000) (hi : i = k) (h : ∀ d, σ d = none → Q (.ref d) (σ.set d (.list (xs.drop k)))) : SLC C A (.ref a) (.int i) .none .none σ Q :=
 SLC_list (lo := some (k : Int)) e hz (.inr ⟨_, hi ▸ rfl, rfl⟩) (.inl ⟨rfl, rfl⟩) (.inl ⟨rfl, rfl⟩) (by decide) (fun U hm => pick_drop hm) h
end
end
section
theorem cmp_line {u n m c : Nat} (h : u + 8 * n + 64 < c) (h' : m ≤ 60) : u + m < c := by lia
theorem nat_small {b : Int} (h : 0 < b) (h' : b ≤ 1000) : b.natAbs < 1073741824 := by lia
section
variable {C : Cx} {A : Around} {σ : Sto}
theorem TRU_bool {b : Bool} {Q : Bool → Sto → Prop} (h : Q b σ) : TRU C A (.bool b) σ Q := fun vr e η s g => by
 obtain rfl := MV.of_bool e
 exact wpAny_truthy_bool ⟨σ, g, h⟩
theorem BIN_add {a b : Int} {Q : MV → Sto → Prop} (h : Q (.int (a + b)) σ) : BIN C A .Add (.int a) (.int b) σ Q := fun av bv e1 e2 η s g => by
 refine xe11 (MV.of_int e1) fun t eq1 => ?_; obtain rfl := eq1
 refine xe11 (MV.of_int e2) fun u eq1 => ?_; obtain rfl := eq1
 exact PyProof.Rows.add_int ⟨σ, g.tok, h⟩
theorem BIN_sub {a b : Int} {Q : MV → Sto → Prop} (h : Q (.int (a - b)) σ) : BIN C A .Sub (.int a) (.int b) σ Q := fun av bv e1 e2 η s g => by
 refine xe11 (MV.of_int e1) fun t eq1 => ?_; obtain rfl := eq1
 refine xe11 (MV.of_int e2) fun u eq1 => ?_; obtain rfl := eq1
 exact PyProof.Rows.sub_int ⟨σ, g.tok, h⟩
theorem BIN_div {a b : Int} {Q : MV → Sto → Prop} (hb : 0 < b) (hb' : b ≤ 1000) (h : Q (.int (a.fdiv b)) σ) : BIN C A .FloorDiv (.int a) (.int b) σ Q := fun av bv e1 e2 η s g => by
 refine xe11 (MV.of_int e1) fun t eq1 => ?_; obtain rfl := eq1
 refine xe11 (MV.of_int e2) fun u eq1 => ?_; obtain rfl := eq1
 exact PyProof.Rows.floordiv_int (Int.ne_of_gt hb) ⟨σ, g.tok, h⟩ (.inl (PyProof.noPylong_small (nat_small hb hb')))
theorem BIN_mod {a b : Int} {Q : MV → Sto → Prop} (hb : b ≠ 0) (h : Q (.int (a.fmod b)) σ) : BIN C A .Mod (.int a) (.int b) σ Q := fun av bv e1 e2 η s g => by
 refine xe11 (MV.of_int e1) fun t eq1 => ?_; obtain rfl := eq1
 refine xe11 (MV.of_int e2) fun u eq1 => ?_; obtain rfl := eq1
 exact PyProof.Rows.mod_int' hb ⟨σ, g.tok, h⟩
theorem INP_add {a b : Int} {Q : MV → Sto → Prop} (h : Q (.int (a + b)) σ) : INP C A .Add (.int a) (.int b) σ Q := fun av bv e1 e2 η s g => by
 refine xe11 (MV.of_int e1) fun t eq1 => ?_; obtain rfl := eq1
 refine xe11 (MV.of_int e2) fun u eq1 => ?_; obtain rfl := eq1
 exact wpAny_iadd_int ⟨σ, g.tok, h⟩
theorem CMP_eq_int {a b : Int} {Q : MV → Sto → Prop} (h : Q (.bool (a == b)) σ) : CMP C A .Eq (.int a) (.int b) σ Q := fun av bv e1 e2 η s g => by
 refine xe11 (MV.of_int e1) fun t eq1 => ?_; obtain rfl := eq1
 refine xe11 (MV.of_int e2) fun u eq1 => ?_; obtain rfl := eq1
 exact PyProof.Rows.eq_int ⟨σ, g, h⟩
theorem CMP_ne_int {a b : Int} {Q : MV → Sto → Prop} (h : Q (.bool (a != b)) σ) : CMP C A .NotEq (.int a) (.int b) σ Q := fun av bv e1 e2 η s g => by
 refine xe11 (MV.of_int e1) fun t eq1 => ?_; obtain rfl := eq1
 refine xe11 (MV.of_int e2) fun u eq1 => ?_; obtain rfl := eq1
 exact PyProof.Rows.ne_int ⟨σ, g, h⟩
theorem CMP_lt_int {a b : Int} {Q : MV → Sto → Prop} (h : Q (.bool (decide (a < b))) σ) : CMP C A .Lt (.int a) (.int b) σ Q := fun av bv e1 e2 η s g => by
 refine xe11 (MV.of_int e1) fun t eq1 => ?_; obtain rfl := eq1
 refine xe11 (MV.of_int e2) fun u eq1 => ?_; obtain rfl := eq1
 exact PyProof.Rows.lt_int ⟨σ, g, h⟩
theorem CMP_gt_int {a b : Int} {Q : MV → Sto → Prop} (h : Q (.bool (decide (b < a))) σ) : CMP C A .Gt (.int a) (.int b) σ Q := fun av bv e1 e2 η s g => by
 refine xe11 (MV.of_int e1) fun t eq1 => ?_; obtain rfl := eq1
 refine xe11 (MV.of_int e2) fun u eq1 => ?_; obtain rfl := eq1
 exact PyProof.Rows.gt_int ⟨σ, g, h⟩
theorem CMP_eq_str {a b : Str} {Q : MV → Sto → Prop} (h : Q (.bool (a == b)) σ) : CMP C A .Eq (.str a) (.str b) σ Q := fun av bv e1 e2 η s g => by
 refine xe11 (MV.of_str e1) fun t eq1 => ?_; obtain rfl := eq1
 refine xe11 (MV.of_str e2) fun u eq1 => ?_; obtain rfl := eq1
 exact PyProof.Rows.eq_str ⟨σ, g, h⟩
theorem CMP_ne_str {a b : Str} {Q : MV → Sto → Prop} (h : Q (.bool (a != b)) σ) : CMP C A .NotEq (.str a) (.str b) σ Q := fun av bv e1 e2 η s g => by
 refine xe11 (MV.of_str e1) fun t eq1 => ?_; obtain rfl := eq1
 refine xe11 (MV.of_str e2) fun u eq1 => ?_; obtain rfl := eq1
 exact PyProof.Rows.ne_str ⟨σ, g, h⟩
theorem CMP_ne_bool {a b : Bool} {Q : MV → Sto → Prop} (h : Q (.bool (a != b)) σ) : CMP C A .NotEq (.bool a) (.bool b) σ Q := fun av bv e1 e2 η s g => by
 obtain rfl := MV.of_bool e1
 obtain rfl := MV.of_bool e2
 exact ne_bool ⟨σ, g, h⟩
noncomputable def MV.isNone : MV → Bool
 | .none => true
 | _ => false
theorem of_isNone (v : Value) : (v == Value.none) = (MV.of v).isNone := by cases v <;> rfl
theorem CMP_is_none {a : MV} {Q : MV → Sto → Prop} (h : Q (.bool a.isNone) σ) : CMP C A .Is a .none σ Q := fun av bv e1 e2 η s g => by
 obtain rfl := MV.of_none e2
 exact is_none ⟨σ, g, by rw [of_isNone, e1]; exact h⟩
theorem CMP_isnot_none {a : MV} {Q : MV → Sto → Prop} (h : Q (.bool (!a.isNone)) σ) : CMP C A .IsNot a .none σ Q := fun av bv e1 e2 η s g => by
 obtain rfl := MV.of_none e2
 exact isNot_none ⟨σ, g, by rw [of_isNone, e1]; exact h⟩
theorem inst_at {η : Sto} {s : Shared} {a D : Addr} {fs : Loc} (g : G C σ η s) (e : σ a = some (.inst D fs)) : ∃ dx, s.heap.get? a = some (instObj D dx) := by
 refine xe11 (g.atS e) fun d r => ?_
 exact ⟨d, r.1⟩
theorem CMP_is_ref {a b D E : Addr} {fs gs : Loc} {Q : MV → Sto → Prop} (e : σ a = some (.inst D fs)) (e' : σ b = some (.inst E gs)) (h : Q (.bool (decide (a = b))) σ) : CMP C A .Is (.ref a) (.ref b) σ Q := fun av bv e1 e2 η s g => by
 obtain rfl := MV.of_ref e1
 obtain rfl := MV.of_ref e2
 refine xe11 (inst_at g e) fun da ha => ?_
 refine xe11 (inst_at g e') fun db hb => ?_
 show wpAny _ A (do return Value.bool (← isSame (.ref a) (.ref b))) _ nF s
 by_cases q : a = b
 ·subst q
  refine wpAny_bind (wpAny_isSame_ref_self (wpAny_pure ⟨σ, g, ?_⟩))
  show Q (.bool true) σ
  simpa using h
 ·refine wpAny_bind (wpAny_isSame_ref_other q ha hb (by simp) (wpAny_pure ⟨σ, g, ?_⟩))
  show Q (.bool false) σ
  simpa [q] using h
inductive RDs (σ : Sto) : List MV → List PyData → Prop where
 | nil : RDs σ [] []
 | atom {m : MV} {d : PyData} {xs : List MV} {ds : List PyData} (h : ∀ (h : Heap) (v : Value), MV.of v = m → ∃ as, Reads h v d as) (r : RDs σ xs ds) : RDs σ (m :: xs) (d :: ds)
 | list {a : Addr} {ys xs : List MV} {es ds : List PyData} (e : σ a = some (.list ys)) (q : RDs σ ys es) (r : RDs σ xs ds) : RDs σ (.ref a :: xs) (.list es :: ds)
 | tuple {a : Addr} {ys xs : List MV} {es ds : List PyData} (e : σ a = some (.tuple ys)) (q : RDs σ ys es) (r : RDs σ xs ds) : RDs σ (.ref a :: xs) (.tuple es :: ds)
noncomputable def RD (σ : Sto) (m : MV) (d : PyData) : Prop := RDs σ [m] [d]
theorem RD.none : RD σ .none .none := .atom (fun h v e => by obtain rfl := MV.of_none e; exact ⟨_, .none⟩) .nil
theorem RD.bool (b : Bool) : RD σ (.bool b) (.bool b) := .atom (fun h v e => by obtain rfl := MV.of_bool e; exact ⟨_, .bool b⟩) .nil
theorem RD.int (i : Int) : RD σ (.int i) (.int i) := .atom (fun h v e => by refine xe11 (MV.of_int e) fun t eq1 => ?_; obtain rfl := eq1; exact ⟨_, .int i t⟩) .nil
theorem RD.str (x : Str) : RD σ (.str x) (.str x) := .atom (fun h v e => by refine xe11 (MV.of_str e) fun t eq1 => ?_; obtain rfl := eq1; exact ⟨_, .str x t⟩) .nil
theorem RD.list {a : Addr} {xs : List MV} {ds : List PyData} (e : σ a = some (.list xs)) (q : RDs σ xs ds) : RD σ (.ref a) (.list ds) := RDs.list e q .nil
theorem RD.tuple {a : Addr} {xs : List MV} {ds : List PyData} (e : σ a = some (.tuple xs)) (q : RDs σ xs ds) : RD σ (.ref a) (.tuple ds) := RDs.tuple e q .nil
theorem RDs.app {xs ys : List MV} {ds es : List PyData} (h : RDs σ xs ds) (h' : RDs σ ys es) : RDs σ (xs ++ ys) (ds ++ es) := by
 induction h with
 | nil => exact h'
 | atom a _ ih => exact .atom a ih
 | list e q _ _ ih => exact .list e q ih
 | tuple e q _ _ ih => exact .tuple e q ih
theorem RDs.cons {x : MV} {d : PyData} {xs : List MV} {ds : List PyData} (h : RD σ x d) (h' : RDs σ xs ds) : RDs σ (x :: xs) (d :: ds) := RDs.app (xs := [x]) (ds := [d]) h h'
theorem RDs.len {xs : List MV} {ds : List PyData} (h : RDs σ xs ds) : xs.length = ds.length := by
 induction h with
 | nil => rfl
 | atom _ _ ih => exact congrArg Nat.succ ih
 | list _ _ _ _ ih => exact congrArg Nat.succ ih
 | tuple _ _ _ _ ih => exact congrArg Nat.succ ih
theorem RDs.mono {σ' : Sto} (hl : ∀ a ys, σ a = some (.list ys) → σ' a = some (.list ys)) (ht : ∀ a ys, σ a = some (.tuple ys) → σ' a = some (.tuple ys)) {xs : List MV} {ds : List PyData} (h : RDs σ xs ds) : RDs σ' xs ds := by
 induction h with
 | nil => exact .nil
 | atom a _ ih => exact .atom a ih
 | list e _ _ iq ih => exact .list (hl _ _ e) iq ih
 | tuple e _ _ iq ih => exact .tuple (ht _ _ e) iq ih
theorem RDs.reads {η : Sto} {s : Shared} (g : G C σ η s) {xs : List MV} {ds : List PyData} (h : RDs σ xs ds) : ∀ {vs : List Value}, vs.map MV.of = xs → ∃ as, ReadsAll s.heap vs ds as := by
 induction h with
 | nil => intro vs e; rw [List.map_eq_nil_iff.mp e]; exact ⟨_, .nil⟩
 | atom a _ ih =>
  intro vs e
  refine xe23 (List.map_eq_cons_iff.mp e) fun v r eq2 e2 e3 => ?_; obtain rfl := eq2
  refine xe11 (ih e3) fun as z => ?_
  refine xe11 (a s.heap v e2) fun bs y => ?_
  exact ⟨_, .cons y z⟩
 | list ha _ _ iq ih =>
  intro vs e
  refine xe23 (List.map_eq_cons_iff.mp e) fun v r eq2 e2 e3 => ?_; obtain rfl := eq2
  refine xe11 (ih e3) fun as z => ?_
  obtain rfl := MV.of_ref e2
  refine xe22 (list_open g ha) fun its n ho hm => ?_
  refine xe11 (iq hm) fun bs y => ?_
  exact ⟨_, .cons (.list ho rfl rfl y) z⟩
 | tuple ha _ _ iq ih =>
  intro vs e
  refine xe23 (List.map_eq_cons_iff.mp e) fun v r eq2 e2 e3 => ?_; obtain rfl := eq2
  refine xe11 (ih e3) fun as z => ?_
  obtain rfl := MV.of_ref e2
  refine xe22 (tuple_open g ha) fun its n ho hm => ?_
  refine xe11 (iq hm) fun bs y => ?_
  exact ⟨_, .cons (.tuple ho rfl rfl y) z⟩
theorem RD.reads {η : Sto} {s : Shared} (g : G C σ η s) {m : MV} {d : PyData} (h : RD σ m d) {v : Value} (e : MV.of v = m) : ∃ as, Reads s.heap v d as := by
 refine xe11 (RDs.reads g h (vs := [v]) (by rw [← e]; rfl)) fun as z => ?_
 cases z with
 | cons a b => exact ⟨_, a⟩
theorem CMP_eq_rd {a b : MV} {da db : PyData} {n : Nat} {Q : MV → Sto → Prop} (ra : RD σ a da) (rb : RD σ b db) (ha : da.canLay0 = true) (hb : db.canLay0 = true) (hu : Bud A n) (hd : da.depth ≤ 60) (h : Q (.bool (PyData.eqv da db)) σ) : CMP C A .Eq a b σ Q := fun av bv e1 e2 η s g => by
 refine xe11 (ra.reads g e1) fun as r1 => ?_
 refine xe11 (rb.reads g e2) fun bs r2 => ?_
 exact PySem.SeqAt.compareEq_reads r1 r2 ha hb (cmp_line hu.u (Nat.le_trans (Nat.min_le_left ..) hd)) ⟨σ, g, h⟩
end
end
section
theorem for_step {M : Program} {w : World} {A : Around} {R : Result → Shared → Prop} {target : Expr} {it : Value} {body orelse : List Stmt} {env : Env} {s : Shared}
  (turn : wpAny (model M w) A (pyNext it) (fun r s₁ => match r with
   | none => wpAny (model M w) A (execs orelse env) (fun f s₃ => R (.ok f) s₃) nF s₁
   | some v => wpAny (model M w) A (letOwnedTupleGo target it v) (fun U s₁' =>
     wpAny (model M w) A (assign target env v) (fun U s₂ => wpAny (model M w) A (execs body env) (fun f s₃ => match f with
      | .next | .cont => codeAny (model M w) A (.forLoop target it body orelse env) R s₃
      | .brk => R (.ok .next) s₃
      | .ret v => R (.ok (.ret v)) s₃) nF s₂) nF s₁') nF s₁) nF s) : codeAny (model M w) A (.forLoop target it body orelse env) R s := by
 refine codeAny_of_tree ?_
 show wpAny _ A ((forTurn target it body orelse env).onRaise (fun x => do noteFrame x env; theTreesLotGoes x)) _ _ s
 refine wpAny_noted ?_
 simp only [forTurn]
 refine wpAny_bind (wpAny_standAt (wpAny_bind (wpAny_onRaise (wpAny_mono turn (fun r s₁ h₁ => ?_) fun U U h' => h'.elim))))
 cases r with
 | none => exact wpAny_pure ⟨rfl, codeAny_block (wpAny_mono h₁ (fun U U x => x) fun U U x => x.elim)⟩
 | some v =>
  refine wpAny_bind (wpAny_mono h₁ (fun U s₁' h₁' => ?_) fun U U h' => h'.elim)
  refine wpAny_bind (wpAny_mono h₁' (fun U s₂ h₂ => wpAny_bind (wpAny_mono h₂ (fun f s₃ h₃ => ?_) fun U U h' => h'.elim)) fun U U h' => h'.elim)
  cases f with
  | next => exact wpAny_pure ⟨rfl, h₃⟩
  | cont => exact wpAny_pure ⟨rfl, h₃⟩
  | brk => exact wpAny_pure h₃
  | ret v => exact wpAny_pure h₃
theorem while_step {M : Program} {w : World} {A : Around} {R : Result → Shared → Prop} {test : Expr} {body orelse : List Stmt} {env : Env} {s : Shared}
  (turn : wpAny (model M w) A (isTrue test env (eval test env)) (fun b s₂ =>
    if b then wpAny (model M w) A (execs body env) (fun f s₃ => match f with
      | .next | .cont => codeAny (model M w) A (.whileLoop test body orelse env) R s₃
      | .brk => R (.ok .next) s₃
      | .ret v => R (.ok (.ret v)) s₃) nF s₂
    else wpAny (model M w) A (execs orelse env) (fun f s₃ => R (.ok f) s₃) nF s₂) nF s) : codeAny (model M w) A (.whileLoop test body orelse env) R s := by
 refine codeAny_of_tree ?_
 show wpAny _ A ((whileTurn test body orelse env).onRaise (fun x => do noteFrame x env; theTreesLotGoes x)) _ _ s
 refine wpAny_noted ?_
 simp only [whileTurn]
 refine wpAny_bind (wpAny_mono turn (fun b s₂ h₂ => ?_) fun U U h' => h'.elim)
 cases b with
 | false =>
  simp only [Bool.false_eq_true, if_false] at h₂ ⊢
  exact wpAny_bind (wpAny_mono h₂ (fun f s₃ h₃ => wpAny_pure h₃) fun U U h' => h'.elim)
 | true =>
  simp only [if_true] at h₂ ⊢
  refine wpAny_bind (wpAny_mono h₂ (fun f s₃ h₃ => ?_) fun U U h' => h'.elim)
  cases f with
  | next => exact wpAny_pure ⟨rfl, h₃⟩
  | cont => exact wpAny_pure ⟨rfl, h₃⟩
  | brk => exact wpAny_pure h₃
  | ret v => exact wpAny_pure h₃
noncomputable def Ends (C : Cx) (env : Env) (η : Sto) (Q : MF → Loc → Sto → Prop) : Result → Shared → Prop := fun r s' => match r with
 | .ok f => ∃ ρ' σ', G C σ' (FR env ρ' η) s' ∧ Q (MF.of f) ρ' σ'
 | .error _ => False
noncomputable def WH (C : Cx) (A : Around) (env : Env) (test : Expr) (body orelse : List Stmt) (ρ : Loc) (σ : Sto) (Q : MF → Loc → Sto → Prop) : Prop := EnvOk env → ∀ η s, G C σ (FR env ρ η) s →
 codeAny C.M A (.whileLoop test body orelse env) (Ends C env η Q) s
section
variable {C : Cx} {A : Around} {env : Env} {ρ : Loc} {σ : Sto}
noncomputable def loopX (again : Loc → Sto → Prop) (Q : MF → Loc → Sto → Prop) : MF → Loc → Sto → Prop := fun fl ρ σ => match fl with
 | .next | .cont => again ρ σ
 | .brk => Q .next ρ σ
 | .ret v => Q (.ret v) ρ σ
theorem WH_step {test : Expr} {body orelse : List Stmt} {Q : MF → Loc → Sto → Prop}
  (h : TST C A env test ρ σ fun b σ₁ => if b then EX C A env body ρ σ₁ (loopX (fun ρ' σ' => WH C A env test body orelse ρ' σ' Q) Q) else EX C A env orelse ρ σ₁ Q) : WH C A env test body orelse ρ σ Q := fun ok η s g => by
 refine while_step (wpK (h ok η s g) (fun b s₁ σ₁ g1 h1 => ?_))
 cases b with
 | false => exact h1 ok η _ g1
 | true =>
  refine wpK2 (h1 ok η _ g1) (fun fl s' ρ' σ' g' q => ?_)
  cases fl with
  | next => exact q ok η _ g'
  | cont => exact q ok η _ g'
  | brk => exact ⟨ρ', σ', g', q⟩
  | ret v => exact ⟨ρ', σ', g', q⟩
theorem EX1_while {test : Expr} {body orelse : List Stmt} {pos : Pos} {Q : MF → Loc → Sto → Prop} (h : WH C A env test body orelse ρ σ Q) : EX1 C A env (.While test body orelse pos) ρ σ Q := fun ok η s g =>
 wpAny_While (codeAny_mono (h ok η s g) fun r s' q => by cases r with | ok f => exact q | error e => exact q.elim)
noncomputable def offF (env : Env) (it : Addr) : Prop := it ≠ env.locals ∧ it ∉ env.cells.map (·.2)
theorem FR_off {it : Addr} (h : offF env it) (ρ : Loc) (η : Sto) : FR env ρ η it = η it := by
 unfold FR
 rw [if_neg h.1]
 cases q : env.cells.find? (fun p => p.2 == it) with
 | none => rfl
 | some p => exact absurd (List.mem_map.mpr ⟨p, List.mem_of_find?_eq_some q, by simpa using List.find?_some q⟩) h.2
theorem FR_set {it : Addr} {o : MO} (h : offF env it) (ρ : Loc) (η : Sto) : FR env ρ (η.set it o) = (FR env ρ η).set it o := by
 funext a
 by_cases ha : a = it
 ·subst ha; rw [Sto.set_self, FR_off h, Sto.set_self]
 ·rw [Sto.set_ne _ _ ha]
  unfold FR
  split
  ·rfl
  ·split
   ·rfl
   ·rw [Sto.set_ne _ _ ha]
theorem off_of {ρ : Loc} {η : Sto} {it : Addr} (e : FR env ρ η it = none) : offF env it := by
 refine ⟨fun h => ?_, fun h => ?_⟩
 ·subst h; rw [FR_loc] at e; exact sn e
 ·refine xe12 (List.mem_map.mp h) fun p hp eq2 => ?_; obtain rfl := eq2
  unfold FR at e
  split at e
  ·exact sn e
  ·split at e
   ·exact sn e
   ·rename_i q
    exact absurd (List.find?_eq_none.mp q p hp) (by simp)
noncomputable def FORL (C : Cx) (A : Around) (env : Env) (target : Expr) (body orelse : List Stmt) (k : IK) (ρ : Loc) (σ : Sto) (Q : MF → Loc → Sto → Prop) : Prop := EnvOk env → ∀ η it s, offF env it → η it = none → G C σ (FR env ρ (η.set it (.it k))) s →
 codeAny C.M A (.forLoop target (.ref it) body orelse env) (Ends C env η Q) s
noncomputable def ITR (C : Cx) (A : Around) (x : MV) (σ : Sto) (P : IK → Sto → Prop) : Prop := ∀ xr η s, MV.of xr = x → G C σ η s →
 wpAny C.M A (pyIter xr) (fun v s' => ∃ it k σ', v = .ref it ∧ η it = none ∧ σ' it = none ∧ G C σ' (η.set it (.it k)) s' ∧ P k σ') nF s
noncomputable def notSet (e : Expr) : Prop := ∀ env x, foldedSetIterable e env x = pure x
theorem FR_none {it : Addr} {ρ : Loc} {η : Sto} (e : FR env ρ η it = none) : η it = none := by rw [FR_off (off_of e)] at e; exact e
theorem EX1_for {target iter : Expr} {body orelse : List Stmt} {pos : Pos} {Q : MF → Loc → Sto → Prop} (h : EV C A env iter ρ σ fun x σ₁ => ITR C A x σ₁ fun k σ₂ => FORL C A env target body orelse k ρ σ₂ Q) (hs : notSet iter) : EX1 C A env (.For target iter body orelse pos) ρ σ Q := fun ok η s g => by
 refine wpAny_For (wpK (h ok η s g) (fun x U σ₁ g1 h1 => wpAny_mono (h1 x _ _ rfl g1) (fun v s' hh => ?_) fun U U x => x)) (hs env)
 refine xe35 hh fun it k σ' e e1 e2 g2 h2 => ?_
 subst e
 have off := off_of e1
 rw [← FR_set off] at g2
 exact codeAny_mono (h2 ok η it _ off (FR_none e1) g2) fun r s' q => by cases r with | ok f => exact q | error e => exact q.elim
theorem drop_it {η : Sto} {it : Addr} {k : MO} {s : Shared} (off : offF env it) (hn : η it = none) (g : G C σ (FR env ρ (η.set it k)) s) : G C σ (FR env ρ η) s := by
 refine g.sub (fun U U e => e) fun a o e => ?_
 rw [FR_set off]
 by_cases ha : a = it
 ·subst ha; rw [FR_off off, hn] at e; exact nn e
 ·rw [Sto.set_ne _ _ ha]; exact e
noncomputable def freeIter (n : String) : Bool := !(["enumerate", "zip", "dict_itemiterator", "dict_reverseitemiterator", "odict_iterator", "itertools.zip_longest", "itertools.pairwise"].contains n)
theorem go_any {M : Model} {it : Addr} {v : Value} {t : Expr} {Q : Unit → Shared → Prop} {s : Shared} {o : Obj} {n : String} (ho : s.heap.get? it = some o) (hc : o.cls = .type n) (hn : freeIter n = true) (h : Q () s) : wpAny M A (letOwnedTupleGo t (.ref it) v) Q nF s := by
 have hn' : (["enumerate", "zip", "dict_itemiterator", "dict_reverseitemiterator", "odict_iterator", "itertools.zip_longest", "itertools.pairwise"].contains n) = false := by simpa [freeIter] using hn
 unfold letOwnedTupleGo
 split
 ·cases v <;> first | exact wpAny_pure h | skip
  refine wpAny_bind (wpAny_load ho ?_)
  rw [hc]
  split
  ·rename_i e _
   cases e
   rw [hn', Bool.false_and]
   exact wpAny_pure h
  ·exact wpAny_pure h
 ·cases v <;> first | exact wpAny_pure h | skip
  refine wpAny_bind (wpAny_load ho ?_)
  rw [hc]
  split
  ·rename_i e _
   cases e
   rw [hn', Bool.false_and]
   exact wpAny_pure h
  ·exact wpAny_pure h
 ·exact wpAny_pure h
theorem strKey {prog : Program} {w : World} {k : Str} {v : Value} (h : (PySem.strKind prog w).is k v = true) : MV.of v = .str k := by
 refine xe11 (Value.isStrOf_shape h) fun t eq1 => ?_; obtain rfl := eq1
 rfl
noncomputable def TURN (C : Cx) (A : Around) (env : Env) (target : Expr) (body orelse : List Stmt) (k : IK) (v : MV) (ρ : Loc) (σ : Sto) (Q : MF → Loc → Sto → Prop) : Prop :=
 ASG C A env target v ρ σ fun ρ₁ σ₁ => EX C A env body ρ₁ σ₁ (loopX (fun ρ' σ' => FORL C A env target body orelse k ρ' σ' Q) Q)
theorem turn_run {η : Sto} {it : Addr} {s : Shared} {target : Expr} {body orelse : List Stmt} {k : IK} {v : MV} {vr : Value} {Q : MF → Loc → Sto → Prop} (ok : EnvOk env) (off : offF env it) (hn : η it = none) (ev : MV.of vr = v)
  (g : G C σ (FR env ρ (η.set it (.it k))) s) (h : TURN C A env target body orelse k v ρ σ Q) :
  wpAny C.M A (assign target env vr) (fun U s₂ => wpAny C.M A (execs body env) (fun f s₃ => match f with
      | .next | .cont => codeAny C.M A (.forLoop target (.ref it) body orelse env) (Ends C env η Q) s₃
      | .brk => Ends C env η Q (.ok .next) s₃
      | .ret v => Ends C env η Q (.ok (.ret v)) s₃) nF s₂) nF s := by
 refine wpK2 (h ok _ s vr ev g) (fun U s₂ ρ₁ σ₁ g1 h1 => wpK2 (h1 ok _ _ g1) (fun fl s' ρ' σ' g' q => ?_))
 cases fl with
 | next => exact q ok η it _ off hn g'
 | cont => exact q ok η it _ off hn g'
 | brk => exact ⟨ρ', σ', drop_it off hn g', q⟩
 | ret v => exact ⟨ρ', σ', drop_it off hn g', q⟩
theorem end_run {η : Sto} {it : Addr} {s : Shared} {orelse : List Stmt} {k : IK} {Q : MF → Loc → Sto → Prop} (ok : EnvOk env) (off : offF env it) (hn : η it = none) (g : G C σ (FR env ρ (η.set it (.it k))) s) {h' : Heap} (he : Heap.ExtBut it s.heap h') (hkeep : ∀ b o, C.h₀.get? b = some o → b ≠ it)
  (h : EX C A env orelse ρ σ Q) : wpAny C.M A (execs orelse env) (fun f s₃ => Ends C env η Q (.ok f) s₃) nF { s with heap := h' } := by
 have g1 := drop_it off hn g
 have no : (σ.add (FR env ρ η)) it = none := by
  have hit : σ it = none := g.eta (by rw [FR_off off, Sto.set_self])
  simp only [Sto.add, hit, Option.none_or, FR_off off, hn]
 have g2 : G C σ (FR env ρ η) { s with heap := h' } := by
  have hg := g.st.rep
  have hsz : C.h₀.objs.size ≤ h'.objs.size := by
   have e0 := g1.right (FR_loc env ρ η)
   refine xe11 (g1.at e0) fun d r => ?_
   refine xe11 r.some fun ob e' => ?_
   exact Nat.le_trans (g1.st.ge e0) (Nat.le_of_lt (Heap.lt_size (he _ _ (Ne.symm off.1) e')))
  refine ⟨g1.dj, ⟨fun b o e => he b o (hkeep b o e) (g1.st.keep b o e), hsz, ?_⟩, g1.gens, g1.os⟩
  refine xe12 g.st.rep fun δ r1 r2 => ?_
  have inc : ∀ a o, (σ.add (FR env ρ η)) a = some o → (σ.add (FR env ρ (η.set it (.it k)))) a = some o := fun a o e => by
   have ha : a ≠ it := fun e' => by rw [e', no] at e; exact nn e
   rw [FR_set off]
   simp only [Sto.add, Sto.set_ne _ _ ha] at e ⊢
   exact e
  have hid : ∀ a D fs, (σ.add (FR env ρ η)) a = some (.inst D fs) → δ a ≠ it := fun a D fs e q => by
   have z := (r2 a D fs (inc _ _ e)).2.1
   rw [q] at z
   have : (σ.add (FR env ρ (η.set it (.it k)))) it = some (.it k) := g.right (by rw [FR_off off, Sto.set_self])
   exact sn (this.symm.trans z)
  refine ⟨δ, fun a o e => ⟨(r1 a o (inc _ _ e)).1, (r1 a o (inc _ _ e)).2.mv (fun U => he a _ fun e' => by rw [e', no] at e; exact nn e) fun hi U => he _ _ ?_⟩, fun a D fs e => ⟨(r2 a D fs (inc _ _ e)).1, ?_, fun b E gs e' q => (r2 a D fs (inc _ _ e)).2.2 b E gs (inc _ _ e') q⟩⟩
  ·cases o <;> try exact ft hi
   exact hid a _ _ e
  ·have z := (r2 a D fs (inc _ _ e)).2.1
   cases q : (σ.add (FR env ρ η)) (δ a) with
   | none => rfl
   | some o => exact sn ((inc _ _ q).symm.trans z)
 exact wpK2 (h ok η _ g2) (fun f s' ρ' σ' g' q => ⟨ρ', σ', g', q⟩)
theorem it_at {η : Sto} {it : Addr} {s : Shared} {k : IK} (off : offF env it) (g : G C σ (FR env ρ (η.set it (.it k))) s) : k.at_ s.heap it := by
 refine xe11 (g.at (g.right (show FR env ρ (η.set it (.it k)) it = some (.it k) by rw [FR_off off, Sto.set_self]))) fun d r => ?_
 exact r
theorem it_turn {η : Sto} {it : Addr} {s : Shared} {k k' : IK} (off : offF env it) (g : G C σ (FR env ρ (η.set it (.it k))) s) {h' : Heap} {tk : Nat} (hs : Heap.SameBut it s.heap h') (hk : k'.at_ h' it) : G C σ (FR env ρ (η.set it (.it k'))) { s with heap := h', toks := tk } := by
 have e0 := g.right (show FR env ρ (η.set it (.it k)) it = some (.it k) by rw [FR_off off, Sto.set_self])
 have e1 : σ it = none := g.eta (show FR env ρ (η.set it (.it k)) it = some (.it k) by rw [FR_off off, Sto.set_self])
 have : FR env ρ (η.set it (.it k')) = (FR env ρ (η.set it (.it k))).set it (.it k') := by
  rw [FR_set off, FR_set off]
  funext a
  by_cases ha : a = it
  ·subst ha; rw [Sto.set_self, Sto.set_self]
  ·rw [Sto.set_ne _ _ ha, Sto.set_ne _ _ ha, Sto.set_ne _ _ ha]
 rw [this]
 exact g.setR e1 (s' := { s with heap := h', toks := tk }) (g.st.set e0 rfl rfl hs fun d => hk) rfl rfl
theorem it_old {η : Sto} {it : Addr} {s : Shared} {k : IK} (off : offF env it) (g : G C σ (FR env ρ (η.set it (.it k))) s) : ∀ b o, C.h₀.get? b = some o → b ≠ it := fun b o e q => by
 have := g.st.ge (g.right (show FR env ρ (η.set it (.it k)) it = some (.it k) by rw [FR_off off, Sto.set_self]))
 rw [← q] at this
 exact absurd (Heap.lt_size e) (Nat.not_lt.mpr this)
theorem ITR_new {x : MV} {η : Sto} {s : Shared} {k : IK} {ob : Obj} {P : IK → Sto → Prop} (g : G C σ η s) (hf : ob.isFreed = false) (hk : ∀ h' : Heap, h'.get? s.heap.objs.size = some ob → k.at_ h' s.heap.objs.size) (h : P k σ) :
  ∃ it k' σ', Value.ref s.heap.objs.size = .ref it ∧ η it = none ∧ σ' it = none ∧ G C σ' (η.set it (.it k')) { s with heap := s.heap.push ob } ∧ P k' σ' := by
 have hn := g.fresh (Nat.le_refl s.heap.objs.size)
 exact ⟨_, k, σ, rfl, hn.2, hn.1, g.setR hn.1 (s' := { s with heap := s.heap.push ob }) (g.st.new (fun b ob' e => Heap.get?_push_of_some _ e) (by show _ ≤ _; rw [Heap.size_push]; exact Nat.le_succ _) (Nat.le_refl _) rfl fun d => hk _ (Heap.get?_push_size _ hf)) rfl rfl, h⟩
theorem ITR_list {a : Addr} {xs : List MV} {P : IK → Sto → Prop} (e : σ a = some (.list xs)) (h : P (.list a 0) σ) : ITR C A (.ref a) σ P := fun xr η s ex g => by
 obtain rfl := MV.of_ref ex
 refine xe22 (list_open g e) fun its n ho hm => ?_
 exact wpAny_pyIter_list ⟨_, ho, rfl, n, rfl⟩ (ITR_new (x := .none) (k := .list a 0) g rfl (fun h' e => show ∃ o, _ from ⟨_, e, rfl, rfl⟩) h)
theorem ITR_tuple {a : Addr} {xs : List MV} {P : IK → Sto → Prop} (e : σ a = some (.tuple xs)) (h : P (.tuple a 0) σ) : ITR C A (.ref a) σ P := fun xr η s ex g => by
 obtain rfl := MV.of_ref ex
 refine xe22 (tuple_open g e) fun its n ho hm => ?_
 exact wpAny_pyIter_tuple ⟨_, ho, rfl, n, rfl⟩ (ITR_new (x := .none) (k := .tuple a 0) g rfl (fun h' e => show ∃ o, _ from ⟨_, e, rfl, rfl⟩) h)
theorem ITR_dict {a : Addr} {es : List (Str × MV)} {ep : Nat} {P : IK → Sto → Prop} (e : σ a = some (.dict es ep)) (hs : a ≠ sysModules) (h : P (.keys a 0 es.length ep) σ) : ITR C A (.ref a) σ P := fun xr η s ex g => by
 obtain rfl := MV.of_ref ex
 refine xe22 (g.atS e) fun d kvs hd hm => ?_
 have hl : kvs.length = es.length := by rw [← hm, List.length_map]
 exact wpAny_pyIter_dict (by simpa using hs) hd (ITR_new (x := .none) (k := .keys a 0 es.length ep) g rfl (fun h' e => show ∃ o, _ from ⟨_, e, rfl, by rw [hl]; rfl⟩) h)
theorem FORL_list {target : Expr} {body orelse : List Stmt} {a : Addr} {xs : List MV} {i : Nat} {Q : MF → Loc → Sto → Prop} (b : A.handled = none) (e : σ a = some (.list xs))
  (h1 : ∀ v, xs[i]? = some v → TURN C A env target body orelse (.list a (i + 1)) v ρ σ Q) (h2 : xs[i]? = none → EX C A env orelse ρ σ Q) : FORL C A env target body orelse (.list a i) ρ σ Q := fun ok η it s off hn g => by
 refine xe22 (list_open g e) fun its n ho hm => ?_
 have hL : s.heap.IsList a its := ⟨_, ho, rfl, n, rfl⟩
 have hi : s.heap.IsListIter it a i := it_at off g
 refine for_step ?_
 cases q : xs[i]? with
 | none =>
  have q' : its[i]? = none := by
   have := List.getElem?_eq_none_iff.mp q
   rw [Array.getElem?_eq_none_iff, list_size hm]; exact this
  refine wpAny_pyNext_list_end b hi hL q' fun h' he => ?_
  exact end_run ok off hn g he (it_old off g) (h2 q)
 | some v =>
  refine xe12 (list_get hm q) fun y hy eq2 => ?_; obtain rfl := eq2
  refine wpAny_pyNext_list_item hi hL hy fun h' hi' hs => ?_
  have g' := it_turn (tk := s.toks) (k' := .list a (i + 1)) off g hs hi'
  refine xe13 hi' fun o ho' hc U => ?_
  exact go_any (s := { s with heap := h' }) ho' hc (by decide) (turn_run ok off hn rfl g' (h1 _ q))
theorem FORL_tuple {target : Expr} {body orelse : List Stmt} {a : Addr} {xs : List MV} {i : Nat} {Q : MF → Loc → Sto → Prop} (b : A.handled = none) (e : σ a = some (.tuple xs))
  (h1 : ∀ v, xs[i]? = some v → TURN C A env target body orelse (.tuple a (i + 1)) v ρ σ Q) (h2 : xs[i]? = none → EX C A env orelse ρ σ Q) : FORL C A env target body orelse (.tuple a i) ρ σ Q := fun ok η it s off hn g => by
 refine xe22 (tuple_open g e) fun its n ho hm => ?_
 have hL : s.heap.IsTuple a its := ⟨_, ho, rfl, n, rfl⟩
 have hi : s.heap.IsTupleIter it a i := it_at off g
 refine for_step ?_
 cases q : xs[i]? with
 | none =>
  have q' : its[i]? = none := by
   have := List.getElem?_eq_none_iff.mp q
   rw [Array.getElem?_eq_none_iff, list_size hm]; exact this
  exact wpAny_pyNext_tuple_end b hi hL q' fun h' he => end_run ok off hn g he (it_old off g) (h2 q)
 | some v =>
  refine xe12 (list_get hm q) fun y hy eq2 => ?_; obtain rfl := eq2
  refine wpAny_pyNext_tuple_item hi hL hy fun h' hi' hs => ?_
  have g' := it_turn (tk := s.toks) (k' := .tuple a (i + 1)) off g hs hi'
  refine xe13 hi' fun o ho' hc U => ?_
  exact go_any (s := { s with heap := h' }) ho' hc (by decide) (turn_run ok off hn rfl g' (h1 _ q))
theorem FORL_rev {target : Expr} {body orelse : List Stmt} {a : Addr} {xs : List MV} {i : Nat} {Q : MF → Loc → Sto → Prop} (b : A.handled = none) (e : σ a = some (.list xs))
  (h1 : ∀ j v, i = j + 1 → xs[j]? = some v → TURN C A env target body orelse (.rev a ((j : Int) - 1)) v ρ σ Q) (h2 : i = 0 → EX C A env orelse ρ σ Q) (hi : i ≤ xs.length) : FORL C A env target body orelse (.rev a ((i : Int) - 1)) ρ σ Q := fun ok η it s off hn g => by
 refine xe22 (list_open g e) fun its n ho hm => ?_
 have hL : s.heap.IsList a its := ⟨_, ho, rfl, n, rfl⟩
 have hit : s.heap.IsRevIter it a ((i : Int) - 1) := it_at off g
 refine for_step ?_
 cases i with
 | zero => exact wpAny_pyNext_rev_end b (by simpa using hit) fun h' he => end_run ok off hn g he (it_old off g) (h2 rfl)
 | succ j =>
  have q : xs[j]? = some xs[j] := List.getElem?_eq_getElem (by lia)
  refine xe12 (list_get hm q) fun y hy ey => ?_
  refine wpAny_pyNext_rev_item (i := j) (by simpa using hit) hL hy fun h' hi' hs => ?_
  have g' := it_turn (tk := s.toks) (k' := .rev a ((j : Int) - 1)) off g hs hi'
  refine xe13 hi' fun o ho' hc U => ?_
  exact go_any (s := { s with heap := h' }) ho' hc (by decide) (turn_run ok off hn ey g' (h1 j _ rfl q))
theorem FORL_keys {target : Expr} {body orelse : List Stmt} {a : Addr} {es : List (Str × MV)} {i ep n : Nat} {Q : MF → Loc → Sto → Prop} (b : A.handled = none) (e : σ a = some (.dict es ep)) (hn' : n = es.length)
  (h1 : ∀ p, es[i]? = some p → TURN C A env target body orelse (.keys a (i + 1) n ep) (.str p.1) ρ σ Q) (h2 : es[i]? = none → EX C A env orelse ρ σ Q) : FORL C A env target body orelse (.keys a i n ep) ρ σ Q := fun ok η it s off hn g => by
 refine xe22 (g.atS e) fun d kvs hd hm => ?_
 have hlen : kvs.length = es.length := by rw [← hm, List.length_map]
 have hit : s.heap.IsKeyIter it a i n ep := it_at off g
 rw [hn', ← hlen] at hit
 refine for_step ?_
 cases q : es[i]? with
 | none =>
  have q' : kvs[i]? = none := by
   rw [← hm, List.getElem?_map, Option.map_eq_none_iff] at q; exact q
  exact wpAny_pyNext_dict_end b hit hd q' fun h' he => end_run ok off hn g he (it_old off g) (h2 q)
 | some p =>
  have q0 := q
  rw [← hm, List.getElem?_map] at q
  obtain ⟨⟨k, v⟩, hk, rfl⟩ := Option.map_eq_some_iff.mp q
  refine wpAny_pyNext_dict_item hit hd hk fun key h' hkey hi' hs => ?_
  have ek : MV.of key = .str k := strKey hkey
  have g' := it_turn (tk := s.toks) (k' := .keys a (i + 1) n ep) off g hs (by rw [hn', ← hlen]; exact hi')
  refine xe13 hi' fun o ho' hc U => ?_
  exact go_any (s := { s with heap := h' }) ho' hc (by decide) (turn_run ok off hn ek g' (h1 _ q0))
end
end
section
noncomputable def setMany : Loc → List Str → List MV → Loc
 | ρ, x :: xs, v :: vs => setMany (setL ρ x v) xs vs
 | ρ, _, _ => ρ
section
variable {C : Cx} {A : Around} {env : Env} {ρ : Loc} {σ : Sto}
theorem G.growF {η : Sto} {s : Shared} (g : G C σ (FR env ρ η) s) {h' : Heap} {tk : Nat} (k : ∀ b o, s.heap.get? b = some o → h'.get? b = some o) : G C σ (FR env ρ η) { s with heap := h', toks := tk } := by
 refine xe12 g.st.rep fun δ r1 r2 => ?_
 have e0 := g.right (FR_loc env ρ η)
 refine xe11 ((r1 _ _ e0).2.some) fun ob e' => ?_
 exact ⟨g.dj, ⟨fun b o e => k _ _ (g.st.keep b o e), Nat.le_trans (g.st.ge e0) (Nat.le_of_lt (Heap.lt_size (k _ _ e'))), δ, fun a o e => ⟨(r1 a o e).1, (r1 a o e).2.mv (k _) fun U => k _⟩, r2⟩, g.gens, g.os⟩
theorem keep_of_ext {h h' : Heap} (x : Heap.ExtBut h.objs.size h h') : ∀ b o, h.get? b = some o → h'.get? b = some o := fun b o e => x b o (Nat.ne_of_lt (Heap.lt_size e)) e
noncomputable def ASGS (C : Cx) (A : Around) (env : Env) (ts : List Expr) (vs : List MV) (ρ : Loc) (σ : Sto) (Q : Loc → Sto → Prop) : Prop := EnvOk env → ∀ η s vrs, vrs.map MV.of = vs → G C σ (FR env ρ η) s →
 wpAny C.M A (assignInOrder ((assignEach ts env).map (·.2)) vrs) (fun U s' => ∃ ρ' σ', G C σ' (FR env ρ' η) s' ∧ Q ρ' σ') nF s
theorem ASGS_nil {Q : Loc → Sto → Prop} (h : Q ρ σ) : ASGS C A env [] [] ρ σ Q := fun U η s vrs e g => by
 cases vrs with
 | nil => exact wpAny_pure ⟨ρ, σ, g, h⟩
 | cons => cases e
theorem ASGS_cons {t : Expr} {ts : List Expr} {v : MV} {vs : List MV} {Q : Loc → Sto → Prop} (h : ASG C A env t v ρ σ fun ρ₁ σ₁ => ASGS C A env ts vs ρ₁ σ₁ Q) (ht : assignEach (t :: ts) env = (false, assign t env) :: assignEach ts env) : ASGS C A env (t :: ts) (v :: vs) ρ σ Q := fun ok η s vrs e g => by
 cases vrs with
 | nil => cases e
 | cons x xs =>
  rw [List.map_cons, List.cons.injEq] at e
  rw [ht]
  refine wpAny_bind (wpAny_holding (wpK2 (h ok η s x e.1 g) (fun U s' ρ₁ σ₁ g1 h1 => h1 ok η s' xs e.2 g1)))
theorem ASG_tuple {ts : List Expr} {k : Nat} {pos : Pos} {a : Addr} {xs : List MV} {Q : Loc → Sto → Prop} (b : A.handled = none) (e : σ a = some (.tuple xs)) (hl : (assignEach ts env).length = xs.length) (h : ASGS C A env ts xs ρ σ Q) (hs : (assignEach ts env).findIdx? (·.1) = none) :
  ASG C A env (.Tuple ts k pos) (.ref a) ρ σ Q := fun ok η s vr ev g => by
 obtain rfl := MV.of_ref ev
 refine xe22 (tuple_open g e) fun its n ho hm => ?_
 rw [PyProof.Rows.assign_Tuple]
 refine wpAny_bind (wpAny_standAt (wpAny_unpack_tuple b ⟨_, ho, rfl, n, rfl⟩ (by rw [hl, list_size hm]) hs fun h' he => ?_))
 exact h ok η _ its.toList hm (g.growF (tk := s.toks) (keep_of_ext he))
theorem EX1_asg_tuple {ts : List Expr} {k : Nat} {tp pos : Pos} {e : Expr} {Q : MF → Loc → Sto → Prop} (h : EV C A env e ρ σ fun v σ₁ => ASG C A env (.Tuple ts k tp) v ρ σ₁ fun ρ' σ' => Q .next ρ' σ')
  (hs : swapsWithSole [.Tuple ts k tp] e pos.line env = pure false) (hw : swappedStores [.Tuple ts k tp] e env = pure none) : EX1 C A env (.Assign [.Tuple ts k tp] e pos) ρ σ Q := fun ok η s g =>
 Assign_Tuple (wpK (h ok η s g) (fun v s₁ σ₁ g1 h1 => h1 ok η s₁ v rfl g1)) hs hw
theorem bind_many {η : Sto} {Q : Loc → Sto → Prop} (ok : EnvOk env) : ∀ {names : List Str} {vrs : List Value} {ρ : Loc} {s : Shared}, G C σ (FR env ρ η) s → names.all (storeOk env) = true → names.length = vrs.length → Q (setMany ρ names (vrs.map MV.of)) σ →
  wpAny C.M A (assignInOrder (names.map fun n => bindName env n) vrs) (fun U s' => ∃ ρ' σ', G C σ' (FR env ρ' η) s' ∧ Q ρ' σ') nF s
 | [], [], ρ, s, g, _, _, h => wpAny_pure ⟨ρ, σ, g, h⟩
 | [], _ :: _, _, _, _, _, hl, _ => by cases hl
 | _ :: _, [], _, _, _, _, hl, _ => by cases hl
 | x :: xs, v :: vs, ρ, s, g, ha, hl, h => by
  simp only [List.all_cons, Bool.and_eq_true] at ha
  refine wpAny_bind (wpAny_holding (wpAny_bindName (wpK2 (P := fun U ρ' σ' => ρ' = setL ρ x (MV.of v) ∧ σ' = σ) (store_any (Q := fun ρ' σ' => ρ' = setL ρ x (MV.of v) ∧ σ' = σ) ok g ha.1 ⟨rfl, rfl⟩) fun U s' ρ₁ σ₁ g1 hh => ?_)))
  refine xe02 hh fun e1 e2 => ?_
  rw [e1, e2] at g1
  exact bind_many ok g1 ha.2 (by simpa using hl) h
theorem EX1_asg_swap {ts es : List Expr} {k k2 : Nat} {tp pos p2 : Pos} {names : List Str} {Q : MF → Loc → Sto → Prop} (b : A.handled = none)
  (h : EVS C A env p2 es ρ σ fun vs σ₁ => vs.length = names.length ∧ names.length ≤ 1000 ∧ Q .next (setMany ρ names.reverse vs.reverse) σ₁)
  (hw : swappedStores [.Tuple ts k tp] (.Tuple es k2 p2) env = pure (some names)) (hn : names.reverse.all (storeOk env) = true) (hs : swapsWithSole [.Tuple ts k tp] (.Tuple es k2 p2) pos.line env = pure false) :
  EX1 C A env (.Assign [.Tuple ts k tp] (.Tuple es k2 p2) pos) ρ σ Q := fun ok η s g => by
 refine Assign_Tuple_swapped (names := names) (Tuple_ (wpK (h ok η s g) fun vs s₁ σ₁ g1 hh => ?_)) hs hw
 refine xe03 hh fun hl hz h1 => ?_
 rw [List.length_map] at hl
 refine wpAny_newTuple ?_ (le_line (by lia))
 have g2 : G C σ₁ (FR env ρ η) { s₁ with heap := s₁.heap.push { cls := .type "tuple", data := .seq vs.toArray } } := g1.grow (fun b ob e => Heap.get?_push_of_some _ e) (by rw [Heap.size_push]; exact Nat.le_succ _) rfl rfl
 have ht : (s₁.heap.push { cls := .type "tuple", data := .seq vs.toArray }).IsTuple s₁.heap.objs.size vs.toArray := ⟨_, Heap.get?_push_size _ rfl, rfl, 0, rfl⟩
 have := wpAny_unpackItems_tuple (prog := C.prog) (w := C.w) (E := nF) (s := { s₁ with heap := s₁.heap.push { cls := .type "tuple", data := .seq vs.toArray } }) (Q := fun items s₂ => wpAny C.M A (assignInOrder (names.reverse.map fun n => bindName env n) items.reverse) (fun U s' => ∃ ρ' σ', G C σ' (FR env ρ' η) s' ∧ Q (MF.of Flow.next) ρ' σ') nF s₂) b ht (fun h' he => ?_)
 ·have hz' : vs.toArray.size = names.length := by simp [hl]
  rw [hz'] at this
  exact this
 ·exact bind_many (Q := fun ρ' σ' => Q .next ρ' σ') ok (g2.growF (tk := s₁.toks) (keep_of_ext he)) hn (by simp [hl]) (by simpa using h1)
theorem G.move {η : Sto} {s : Shared} {a : Addr} {o : MO} (g : G C (σ.set a o) η s) (e : σ a = none) : G C σ (η.set a o) s := by
 have hn := g.dj a o (Sto.set_self ..)
 refine ⟨fun b ob q => ?_, ?_, g.gens, g.os⟩
 ·have hb : b ≠ a := fun h => by rw [h, e] at q; exact nn q
  rw [Sto.set_ne _ _ hb]
  exact g.dj b ob (by rw [Sto.set_ne _ _ hb]; exact q)
 ·have : σ.add (η.set a o) = (σ.set a o).add η := by rw [add_setR e, add_set]
  rw [this]; exact g.st
theorem ITR_rev {a d : Addr} {i : Int} {P : IK → Sto → Prop} (e : σ d = none) (h : P (.rev a i) σ) : ITR C A (.ref d) (σ.set d (.it (.rev a i))) P := fun xr η s ex g => by
 obtain rfl := MV.of_ref ex
 refine xe11 (g.atS (Sto.set_self ..)) fun dd r => ?_
 exact wpAny_pyIter_revIter (l := a) (i := i) r ⟨d, _, σ, rfl, g.dj _ _ (Sto.set_self ..), e, g.move e, h⟩
theorem CALL_reversed {a : Addr} {xs : List MV} {Q : MV → Sto → Prop} (e : σ a = some (.list xs)) (h : ∀ d, σ d = none → Q (.ref d) (σ.set d (.it (.rev a ((xs.length : Int) - 1))))) : CALL C A (.type "reversed") [.ref a] σ Q := by
 intro fv vs e1 e2 η s g
 obtain rfl := MV.of_type e1
 refine xe12 (args1 e2) fun x eq1 ex => ?_; obtain rfl := eq1
 obtain rfl := MV.of_ref ex
 refine xe22 (list_open g e) fun its n ho hm => ?_
 refine call_reversed_list ⟨_, ho, rfl, n, rfl⟩ ⟨_, new_seq (o := .it (.rev a ((xs.length : Int) - 1))) g rfl rfl (fun h' e d => show ∃ o, _ from ⟨_, e, rfl, by rw [← list_size hm]; rfl⟩), h _ (g.fresh (Nat.le_refl _)).1⟩
theorem EX.sub {σ' : Sto} {sts : List Stmt} {Q : MF → Loc → Sto → Prop} (k : ∀ a o, σ' a = some o → σ a = some o) (h : EX C A env sts ρ σ' Q) : EX C A env sts ρ σ Q := fun ok η s g => h ok η s (g.sub k fun U U e => e)
theorem WH.sub {σ' : Sto} {t : Expr} {b o : List Stmt} {Q : MF → Loc → Sto → Prop} (k : ∀ a o, σ' a = some o → σ a = some o) (h : WH C A env t b o ρ σ' Q) : WH C A env t b o ρ σ Q := fun ok η s g => h ok η s (g.sub k fun U U e => e)
theorem FORL.sub {σ' : Sto} {t : Expr} {b o : List Stmt} {kk : IK} {Q : MF → Loc → Sto → Prop} (k : ∀ a o, σ' a = some o → σ a = some o) (h : FORL C A env t b o kk ρ σ' Q) : FORL C A env t b o kk ρ σ Q := fun ok η it s off hn g => h ok η it s off hn (g.sub k fun U U e => e)
theorem EV.mono {e : Expr} {Q Q' : MV → Sto → Prop} (h : EV C A env e ρ σ Q) (k : ∀ v σ, Q v σ → Q' v σ) : EV C A env e ρ σ Q' := fun ok η s g => wpK (h ok η s g) (fun U U σ' g' q => ⟨σ', g', k _ _ q⟩)
noncomputable def FORE (C : Cx) (A : Around) (env : Env) (ts : List Expr) (kk : Nat) (pt : Pos) (body orelse : List Stmt) (a : Addr) (i : Nat) (ρ : Loc) (σ : Sto) (Q : MF → Loc → Sto → Prop) : Prop := EnvOk env → ∀ η e it s, offF env e → offF env it → e ≠ it → η e = none → η it = none →
 G C σ (FR env ρ ((η.set e (.it (.enum it i))).set it (.it (.list a i)))) s → codeAny C.M A (.forLoop (.Tuple ts kk pt) (.ref e) body orelse env) (Ends C env η Q) s
theorem St.two {τ : Sto} {h h' : Heap} {a b : Addr} {o1 o2 o1' o2' : MO} (x : St C τ h) (e1 : τ a = some o1) (e2 : τ b = some o2) (n1 : o1.isInst = false) (n2 : o2.isInst = false) (n1' : o1'.isInst = false) (n2' : o2'.isInst = false) (hab : a ≠ b)
  (k : ∀ c ob, c ≠ a → c ≠ b → h.get? c = some ob → h'.get? c = some ob) (hs : h.objs.size ≤ h'.objs.size) (r1 : ∀ d, RepAt C h' d a o1') (r2 : ∀ d, RepAt C h' d b o2') : St C ((τ.set a o1').set b o2') h' := by
 have ga := x.ge e1
 have gb := x.ge e2
 refine xe12 x.rep fun δ p1 p2 => ?_
 have hd : ∀ c D fs, τ c = some (.inst D fs) → δ c ≠ a ∧ δ c ≠ b := fun c D fs e => by
  have z := (p2 c D fs e).2.1
  exact ⟨fun q => by (rw [q, e1] at z; exact sn z), fun q => by (rw [q, e2] at z; exact sn z)⟩
 have old : ∀ c D fs, ((τ.set a o1').set b o2') c = some (.inst D fs) → τ c = some (.inst D fs) := fun c D fs e => by
  by_cases hb : c = b
  ·subst hb; rw [Sto.set_self] at e; obtain rfl := si e; exact tf n2'
  ·rw [Sto.set_ne _ _ hb] at e
   by_cases ha : c = a
   ·subst ha; rw [Sto.set_self] at e; obtain rfl := si e; exact tf n1'
   ·rw [Sto.set_ne _ _ ha] at e; exact e
 refine ⟨fun c ob e => k c ob (by rintro rfl; exact absurd (Heap.lt_size e) (Nat.not_lt.mpr ga)) (by rintro rfl; exact absurd (Heap.lt_size e) (Nat.not_lt.mpr gb)) (x.keep c ob e), Nat.le_trans x.size hs, δ, fun c o e => ?_, fun c D fs e => ?_⟩
 ·by_cases hb : c = b
  ·subst hb; rw [Sto.set_self] at e; obtain rfl := si e; exact ⟨gb, r2 _⟩
  ·rw [Sto.set_ne _ _ hb] at e
   by_cases ha : c = a
   ·subst ha; rw [Sto.set_self] at e; obtain rfl := si e; exact ⟨ga, r1 _⟩
   ·rw [Sto.set_ne _ _ ha] at e
    refine ⟨(p1 c o e).1, (p1 c o e).2.mv (fun ob => k c ob ha hb) fun hi ob => ?_⟩
    cases o <;> try exact ft hi
    exact k _ ob (hd c _ _ e).1 (hd c _ _ e).2
 ·have q := p2 c D fs (old c D fs e)
  refine ⟨q.1, ?_, fun c' E gs e' w => q.2.2 c' E gs (old _ _ _ e') w⟩
  rw [Sto.set_ne _ _ (hd c D fs (old c D fs e)).2, Sto.set_ne _ _ (hd c D fs (old c D fs e)).1]
  exact q.2.1
theorem two_FR {η : Sto} {e it : Addr} {o1 o2 : MO} (oe : offF env e) (oi : offF env it) : FR env ρ ((η.set e o1).set it o2) = ((FR env ρ η).set e o1).set it o2 := by rw [FR_set oi, FR_set oe]
theorem G.two {η : Sto} {s : Shared} {a b : Addr} {o1 o2 o1' o2' : MO} (g : G C σ η s) (e1 : η a = some o1) (e2 : η b = some o2) (n1 : o1.isInst = false) (n2 : o2.isInst = false) (n1' : o1'.isInst = false) (n2' : o2'.isInst = false) (hab : a ≠ b)
  {h' : Heap} {tk : Nat} (k : ∀ c ob, c ≠ a → c ≠ b → s.heap.get? c = some ob → h'.get? c = some ob) (hs : s.heap.objs.size ≤ h'.objs.size) (r1 : ∀ d, RepAt C h' d a o1') (r2 : ∀ d, RepAt C h' d b o2') : G C σ ((η.set a o1').set b o2') { s with heap := h', toks := tk } := by
 have s1 := g.eta e1
 have s2 := g.eta e2
 refine ⟨fun c o e => ?_, ?_, g.gens, g.os⟩
 ·have ha : c ≠ a := fun q => by rw [q, s1] at e; exact nn e
  have hb : c ≠ b := fun q => by rw [q, s2] at e; exact nn e
  rw [Sto.set_ne _ _ hb, Sto.set_ne _ _ ha]; exact g.dj c o e
 ·rw [add_setR s2, add_setR s1]
  exact g.st.two (g.right e1) (g.right e2) n1 n2 n1' n2' hab k hs r1 r2
theorem FORE_step {ts : List Expr} {kk : Nat} {pt : Pos} {body orelse : List Stmt} {a : Addr} {xs : List MV} {i : Nat} {Q : MF → Loc → Sto → Prop} (b : A.handled = none) (e : σ a = some (.list xs))
  (h1 : ∀ v, xs[i]? = some v → ASGS C A env ts [.int i, v] ρ σ fun ρ₁ σ₁ => EX C A env body ρ₁ σ₁ (loopX (fun ρ' σ' => FORE C A env ts kk pt body orelse a (i + 1) ρ' σ' Q) Q)) (h2 : xs[i]? = none → EX C A env orelse ρ σ Q)
  (hl : ∀ env, (assignEach ts env).length = 2) (hs : ∀ env, (assignEach ts env).findIdx? (·.1) = none) : FORE C A env ts kk pt body orelse a i ρ σ Q := fun ok η en it s oe oi hne ne ni g => by
 refine xe22 (list_open g e) fun its n ho hm => ?_
 have hL : s.heap.IsList a its := ⟨_, ho, rfl, n, rfl⟩
 have fe : FR env ρ ((η.set en (.it (.enum it i))).set it (.it (.list a i))) en = some (.it (.enum it i)) := by rw [two_FR oe oi, Sto.set_ne _ _ hne, Sto.set_self]
 have fi : FR env ρ ((η.set en (.it (.enum it i))).set it (.it (.list a i))) it = some (.it (.list a i)) := by rw [two_FR oe oi, Sto.set_self]
 refine xe21 (g.at (g.right fe)) fun U old he => ?_
 refine xe11 (g.at (g.right fi)) fun U hi => ?_
 replace hi : s.heap.IsListIter it a i := hi
 replace he : IsEnum s.heap en it i old := he
 refine for_step ?_
 cases q : xs[i]? with
 | none =>
  have q' : its[i]? = none := by
   have := List.getElem?_eq_none_iff.mp q
   rw [Array.getElem?_eq_none_iff, list_size hm]; exact this
  refine wpAny_pyNext_enum_end b he hi hL q' fun h' hx => ?_
  refine wpK2 (end_run (Q := Q) ok oi (by rw [Sto.set_ne _ _ (Ne.symm hne)]; exact ni) g hx (it_old oi g) (h2 q)) (fun f s' ρ' σ' g' q => ⟨ρ', σ', drop_it oe ne g', q⟩)
 | some v =>
  refine xe12 (list_get hm q) fun y hy eq2 => ?_; obtain rfl := eq2
  refine wpAny_pyNext_enum_item he hi hL hy hne fun h₁ heo hit₁ ht₁ hz₁ hk₁ => ?_
  refine wpAny_letOwnedTupleGo_enum heo fun h₂ he₂ hs₂ => ?_
  replace hs₂ : Heap.SameBut en h₁ h₂ := hs₂
  have hT : s.heap.objs.size ≠ en := Nat.ne_of_gt (Heap.lt_size he)
  have ht₂ : h₂.IsTuple s.heap.objs.size #[.int i s.toks, y] := ⟨_, (hs₂.2 _ hT).trans ht₁, rfl, _, rfl⟩
  have hz₂ : h₂.objs.size = s.heap.objs.size + 1 := hs₂.1.trans hz₁
  have g2 : G C σ (FR env ρ ((η.set en (.it (.enum it (i + 1 : Nat)))).set it (.it (.list a (i + 1))))) { s with heap := h₂, toks := s.toks + 1 } := by
   have := g.two (h' := h₂) (tk := s.toks + 1) fe fi rfl rfl (o1' := .it (.enum it (i + 1 : Nat))) (o2' := .it (.list a (i + 1))) rfl rfl hne (fun c ob c1 c2 z => (hs₂.2 c c1).trans (hk₁ c ob c1 c2 z)) (by rw [hz₂]; exact Nat.le_succ _) (fun d => ?_) (fun d => ?_)
   ·rw [two_FR oe oi] at this
    rw [two_FR oe oi]
    have e' : ∀ (τ : Sto) o1 o2 o3 o4, (((((τ.set en o1).set it o2).set en o3).set it o4) : Sto) = (τ.set en o3).set it o4 := fun τ o1 o2 o3 o4 => by
     funext c
     by_cases c1 : c = it
     ·subst c1; rw [Sto.set_self, Sto.set_self]
     ·rw [Sto.set_ne _ _ c1, Sto.set_ne _ _ c1]
      by_cases c2 : c = en
      ·subst c2; rw [Sto.set_self, Sto.set_self]
      ·rw [Sto.set_ne _ _ c2, Sto.set_ne _ _ c2, Sto.set_ne _ _ c1, Sto.set_ne _ _ c2]
    rw [e'] at this
    exact this
   ·exact ⟨_, by
    have : ((i + 1 : Nat) : Int) = (i : Int) + 1 := by push_cast; rfl
    rw [this]; exact he₂⟩
   ·exact hit₁.at fun o z => (hs₂.2 it (Ne.symm hne)).trans z
  refine wpAny_assign_Tuple b ht₂ (by rw [hl]; rfl) (hs env) fun h₃ hx₃ => ?_
  replace hx₃ : Heap.ExtBut h₂.objs.size h₂ h₃ := hx₃
  refine wpK2 (h1 _ q ok _ _ [.int i s.toks, y] rfl (g2.growF (tk := s.toks + 1) (keep_of_ext hx₃))) (fun U s₄ ρ₁ σ₁ g4 h4 => ?_)
  refine wpK2 (h4 ok _ _ g4) (fun fl s' ρ' σ' g' q => ?_)
  have dr : G C σ' (FR env ρ' η) s' := drop_it oe ne (drop_it oi (by rw [Sto.set_ne _ _ (Ne.symm hne)]; exact ni) g')
  cases fl with
  | next => exact q ok η en it _ oe oi hne ne ni g'
  | cont => exact q ok η en it _ oe oi hne ne ni g'
  | brk => exact ⟨ρ', σ', dr, q⟩
  | ret v => exact ⟨ρ', σ', dr, q⟩
theorem CALL_enumerate {a : Addr} {xs : List MV} {Q : MV → Sto → Prop} (e : σ a = some (.list xs)) (h : ∀ d it, σ d = none → σ it = none → d ≠ it → Q (.ref d) ((σ.set it (.it (.list a 0))).set d (.it (.enum it 0)))) : CALL C A (.type "enumerate") [.ref a] σ Q := by
 intro fv vs e1 e2 η s g
 obtain rfl := MV.of_type e1
 refine xe12 (args1 e2) fun x eq1 ex => ?_; obtain rfl := eq1
 obtain rfl := MV.of_ref ex
 refine xe22 (list_open g e) fun its n ho hm => ?_
 refine call_enumerate_1 ho fun h' he hi hz hk => ?_
 have f1 := g.fresh (Nat.le_refl s.heap.objs.size)
 have f2 := g.fresh (Nat.le_succ s.heap.objs.size)
 have hne : s.heap.objs.size + 1 ≠ s.heap.objs.size := Nat.succ_ne_self _
 refine ⟨_, ?_, h _ _ f2.1 f1.1 hne⟩
 have g1 : G C (σ.set s.heap.objs.size (.it (.list a 0))) η { s with heap := h' } :=
  g.setS f1.2 (s' := { s with heap := h' }) (g.st.new hk (by show s.heap.objs.size ≤ h'.objs.size; lia) (Nat.le_refl _) rfl fun d => hi) rfl rfl
 have e0 : ((σ.set s.heap.objs.size (.it (.list a 0))).add η) (s.heap.objs.size + 1) = none := by
  simp only [Sto.add, Sto.set_ne _ _ hne, f2.1, f2.2]; rfl
 refine g1.setS f2.2 (s' := { s with heap := h' }) ?_ rfl rfl
 refine xe12 g1.st.rep fun δ r1 r2 => ?_
 have hge := g1.st.ge (add_left (Sto.set_self ..))
 refine ⟨g1.st.keep, g1.st.size, δ, fun c o ec => ?_, fun c D fs ec => ?_⟩
 ·by_cases hc : c = s.heap.objs.size + 1
  ·subst hc; rw [Sto.set_self] at ec; obtain rfl := si ec; exact ⟨Nat.le_succ_of_le hge, ⟨_, he⟩⟩
  ·rw [Sto.set_ne _ _ hc] at ec; exact r1 c o ec
 ·have hc : c ≠ s.heap.objs.size + 1 := by rintro rfl; rw [Sto.set_self] at ec; cases ec
  rw [Sto.set_ne _ _ hc] at ec
  have q := r2 c D fs ec
  have hd : δ c ≠ s.heap.objs.size + 1 := fun w => by
   obtain ⟨_, _, ⟨_, _, _, hob, hdt, _⟩, _⟩ := (r1 c _ ec).2
   rw [w, he] at hob; obtain rfl := si hob; cases hdt
  refine ⟨q.1, by rw [Sto.set_ne _ _ hd]; exact q.2.1, fun c' E gs e' w => q.2.2 c' E gs ?_ w⟩
  have hc' : c' ≠ s.heap.objs.size + 1 := by rintro rfl; rw [Sto.set_self] at e'; cases e'
  rw [Sto.set_ne _ _ hc'] at e'; exact e'
theorem EX1_forE {ts : List Expr} {kk : Nat} {pt pos : Pos} {iter : Expr} {body orelse : List Stmt} {Q : MF → Loc → Sto → Prop}
  (h : EV C A env iter ρ σ fun x σ₁ => ∃ d it a σ₂, x = .ref d ∧ σ₁ = (σ₂.set it (.it (.list a 0))).set d (.it (.enum it 0)) ∧ σ₂ d = none ∧ σ₂ it = none ∧ d ≠ it ∧ FORE C A env ts kk pt body orelse a 0 ρ σ₂ Q) (hs : notSet iter) :
  EX1 C A env (.For (.Tuple ts kk pt) iter body orelse pos) ρ σ Q := fun ok η s g => by
 refine wpAny_For (wpK (h ok η s g) fun x s₁ σ₁ g1 hh => ?_) (hs env)
 refine xe46 hh fun d it a σ₂ ex e1 ed ei hne h1 => ?_
 obtain rfl := MV.of_ref ex
 subst e1
 have hv := Sto.set_self (σ₂.set it (.it (.list a 0))) d (.it (.enum it 0))
 refine xe21 (g1.atS hv) fun U old he => ?_
 have fd : FR env ρ η d = none := g1.dj _ _ hv
 have fi : FR env ρ η it = none := g1.dj it (.it (.list a 0)) (by rw [Sto.set_ne _ _ (Ne.symm hne), Sto.set_self])
 refine wpAny_pyIter_enum he ?_
 have g2 := (g1.move (by rw [Sto.set_ne _ _ hne]; exact ed)).move ei
 rw [← two_FR (off_of fd) (off_of fi)] at g2
 exact codeAny_mono (h1 ok η d it _ (off_of fd) (off_of fi) hne (FR_none fd) (FR_none fi) g2) fun r s' q => by cases r with | ok f => exact q | error e => exact q.elim
theorem CALL_range {n : Int} {Q : MV → Sto → Prop} (h : ∀ d t u v, σ d = none → Q (.ref d) (σ.set d (.raw { cls := .type "range", data := .fields #[.int 0 t, .int n u, .int 1 v] }))) : CALL C A (.type "range") [.int n] σ Q := by
 intro fv vs e1 e2 η s g
 obtain rfl := MV.of_type e1
 refine xe12 (args1 e2) fun x eq1 ex => ?_; obtain rfl := eq1
 refine xe11 (MV.of_int ex) fun t eq1 => ?_; obtain rfl := eq1
 exact call_range_1 ⟨_, (new_seq (ob := { cls := .type "range", data := .fields #[.int 0 s.toks, .int n t, .int 1 (s.toks + 1)] }) (o := .raw _) g rfl rfl (fun h' e d => e)).tok, h _ _ _ _ (g.fresh (Nat.le_refl _)).1⟩
theorem ITR_range {d : Addr} {n : Nat} {t u v : Tok} {P : IK → Sto → Prop} (hn : n ≤ 1000000) (e : σ d = some (.raw { cls := .type "range", data := .fields #[.int 0 t, .int (n : Int) u, .int 1 v] })) (h : P (.range 0 n 1) σ) : ITR C A (.ref d) σ P := fun xr η s ex g => by
 obtain rfl := MV.of_ref ex
 refine xe11 (g.atS e) fun U ho => ?_
 refine wpAny_pyIter_range ho (small_one (by decide) (by decide) (by lia) (by lia)) ?_
 have : Builtin.Range.rangeSize 0 n 1 = n := by rw [rangeSize_one]; split <;> lia
 rw [this]
 exact ITR_new (x := .none) (k := .range 0 n 1) g rfl (fun h' e => e) h
theorem FORL_range {target : Expr} {body orelse : List Stmt} {x : Int} {n : Nat} {Q : MF → Loc → Sto → Prop} (b : A.handled = none)
  (h1 : ∀ m, n = m + 1 → TURN C A env target body orelse (.range (x + 1) m 1) (.int x) ρ σ Q) (h2 : n = 0 → EX C A env orelse ρ σ Q) : FORL C A env target body orelse (.range x n 1) ρ σ Q := fun ok η it s off hn g => by
 have hit : IsRangeIter s.heap it x n 1 := it_at off g
 refine for_step ?_
 cases n with
 | zero => exact wpAny_pyNext_range_end b hit (by lia) fun h' he => end_run ok off hn g he (it_old off g) (h2 rfl)
 | succ m =>
  refine wpAny_pyNext_range_item hit (by lia) fun h' hi' hs => ?_
  have : ((m + 1 : Nat) : Int) - 1 = (m : Int) := by push_cast; lia
  rw [this] at hi'
  have g' := it_turn (tk := s.toks + 1) (k' := .range (x + 1) m 1) off g hs hi'
  exact go_any (s := { s with heap := h', toks := s.toks + 1 }) hi' rfl (by decide) (turn_run ok off hn rfl g' (h1 m rfl))
end
end
section
section
variable {C : Cx} {A : Around} {env : Env} {ρ : Loc} {σ : Sto}
noncomputable def isS (x : Str) (v : Value) : Bool := match v with
 | .str y _ => y == x
 | _ => false
noncomputable def isI (x : Int) (v : Value) : Bool := match v with
 | .int y _ => y == x
 | _ => false
theorem strs_at {its : Array Value} {xs : List Str} (x : Str) (h : its.toList.map MV.of = xs.map .str) : (∀ v ∈ its, ∃ y t, v = .str y t) ∧ its.any (isS x) = xs.contains x := by
 have : ∀ (l : List Value) (xs : List Str), l.map MV.of = xs.map .str → (∀ v ∈ l, ∃ y t, v = .str y t) ∧ l.any (isS x) = xs.contains x := fun l => by
  induction l with
  | nil => intro xs h; cases xs with
   | nil => exact ⟨(List.forall_mem_nil _), rfl⟩
   | cons => cases h
  | cons v r ih => intro xs h; cases xs with
   | nil => cases h
   | cons y xs =>
    rw [List.map_cons, List.map_cons, List.cons.injEq] at h
    refine xe11 (MV.of_str h.1) fun t eq1 => ?_; obtain rfl := eq1
    refine xe02 (ih xs h.2) fun i1 i2 => ?_
    refine ⟨fun v hv => ?_, ?_⟩
    ·rcases List.mem_cons.mp hv with rfl | hv
     ·exact ⟨_, _, rfl⟩
     ·exact i1 v hv
    ·rw [List.any_cons, i2, List.contains_cons]
     show (y == x || _) = _
     rw [show (y == x) = (x == y) from BEq.comm]
 refine xe02 (this _ _ h) fun h1 h2 => ?_
 exact ⟨fun v hv => h1 v (Array.mem_toList_iff.mpr hv), by rw [← Array.any_toList]; exact h2⟩
theorem ints_at {its : Array Value} {xs : List Int} (x : Int) (h : its.toList.map MV.of = xs.map .int) : (∀ v ∈ its, ∃ y t, v = .int y t) ∧ its.any (isI x) = xs.contains x := by
 have : ∀ (l : List Value) (xs : List Int), l.map MV.of = xs.map .int → (∀ v ∈ l, ∃ y t, v = .int y t) ∧ l.any (isI x) = xs.contains x := fun l => by
  induction l with
  | nil => intro xs h; cases xs with
   | nil => exact ⟨(List.forall_mem_nil _), rfl⟩
   | cons => cases h
  | cons v r ih => intro xs h; cases xs with
   | nil => cases h
   | cons y xs =>
    rw [List.map_cons, List.map_cons, List.cons.injEq] at h
    refine xe11 (MV.of_int h.1) fun t eq1 => ?_; obtain rfl := eq1
    refine xe02 (ih xs h.2) fun i1 i2 => ?_
    refine ⟨fun v hv => ?_, ?_⟩
    ·rcases List.mem_cons.mp hv with rfl | hv
     ·exact ⟨_, _, rfl⟩
     ·exact i1 v hv
    ·rw [List.any_cons, i2, List.contains_cons]
     show (y == x || _) = _
     rw [show (y == x) = (x == y) from BEq.comm]
 refine xe02 (this _ _ h) fun h1 h2 => ?_
 exact ⟨fun v hv => h1 v (Array.mem_toList_iff.mpr hv), by rw [← Array.any_toList]; exact h2⟩
theorem eqS {A : Around} {s : Shared} {x : Str} {u : Tok} {v : Value} (h : ∃ y t, v = .str y t) : PySem.SeqAt.EqAt A s v (.str x u) (isS x v) := by
 refine xe21 h fun y t eq2 => ?_; obtain rfl := eq2; exact PySem.SeqAt.EqAt.str_str _ _ _ _
theorem eqI {A : Around} {s : Shared} {x : Int} {u : Tok} {v : Value} (h : ∃ y t, v = .int y t) : PySem.SeqAt.EqAt A s v (.int x u) (isI x v) := by
 refine xe21 h fun y t eq2 => ?_; obtain rfl := eq2; exact PySem.SeqAt.EqAt.int_int _ _ _ _
theorem CMP_in_strs {a : Addr} {xs : List Str} {x : Str} {Q : MV → Sto → Prop} (e : σ a = some (.list (xs.map .str))) (h : Q (.bool (xs.contains x)) σ) : CMP C A .In (.str x) (.ref a) σ Q := fun av bv e1 e2 η s g => by
 obtain rfl := MV.of_ref e2
 refine xe11 (MV.of_str e1) fun t eq1 => ?_; obtain rfl := eq1
 refine xe22 (list_open g e) fun its n ho hm => ?_
 refine xe02 (strs_at x hm) fun h1 h2 => ?_
 exact PySem.SeqAt.in_listAt (isS x) ⟨_, ho, rfl, n, rfl⟩ (fun y hy => eqS (h1 y hy)) ⟨σ, g, by rw [h2]; exact h⟩
theorem CMP_notin_strs {a : Addr} {xs : List Str} {x : Str} {Q : MV → Sto → Prop} (e : σ a = some (.list (xs.map .str))) (h : Q (.bool (!xs.contains x)) σ) : CMP C A .NotIn (.str x) (.ref a) σ Q := fun av bv e1 e2 η s g => by
 obtain rfl := MV.of_ref e2
 refine xe11 (MV.of_str e1) fun t eq1 => ?_; obtain rfl := eq1
 refine xe22 (list_open g e) fun its n ho hm => ?_
 refine xe02 (strs_at x hm) fun h1 h2 => ?_
 exact PySem.SeqAt.notIn_listAt (isS x) ⟨_, ho, rfl, n, rfl⟩ (fun y hy => eqS (h1 y hy)) ⟨σ, g, by rw [h2]; exact h⟩
theorem CMP_notin_ints {a : Addr} {xs : List Int} {x : Int} {Q : MV → Sto → Prop} (e : σ a = some (.list (xs.map .int))) (h : Q (.bool (!xs.contains x)) σ) : CMP C A .NotIn (.int x) (.ref a) σ Q := fun av bv e1 e2 η s g => by
 obtain rfl := MV.of_ref e2
 refine xe11 (MV.of_int e1) fun t eq1 => ?_; obtain rfl := eq1
 refine xe22 (list_open g e) fun its n ho hm => ?_
 refine xe02 (ints_at x hm) fun h1 h2 => ?_
 exact PySem.SeqAt.notIn_listAt (isI x) ⟨_, ho, rfl, n, rfl⟩ (fun y hy => eqI (h1 y hy)) ⟨σ, g, by rw [h2]; exact h⟩
theorem CMP_in_tstrs {a : Addr} {xs : List Str} {x : Str} {Q : MV → Sto → Prop} (e : σ a = some (.tuple (xs.map .str))) (h : Q (.bool (xs.contains x)) σ) : CMP C A .In (.str x) (.ref a) σ Q := fun av bv e1 e2 η s g => by
 obtain rfl := MV.of_ref e2
 refine xe11 (MV.of_str e1) fun t eq1 => ?_; obtain rfl := eq1
 refine xe22 (tuple_open g e) fun its n ho hm => ?_
 refine xe02 (strs_at x hm) fun h1 h2 => ?_
 exact PySem.SeqAt.in_tupleAt (isS x) ⟨_, ho, rfl, n, rfl⟩ (fun y hy => eqS (h1 y hy)) ⟨σ, g, by rw [h2]; exact h⟩
end
end
section
noncomputable abbrev PK (C : Cx) : Prop := C.K = KF C.w.params
section
variable {C : Cx} {A : Around} {env : Env} {ρ : Loc} {σ : Sto} {Q : MF → Loc → Sto → Prop} {again : Loc → Sto → Prop} {rest : List Stmt} {v : MV}
theorem look_eq {l : Loc} {x : Str} {v : MV} : (setL l x v).lookup x = some v := by rw [lookup_setL, if_pos rfl]
theorem look_ne {l : Loc} {x y : Str} {v : MV} {r : Option MV} (h : (y == x) = false) (e : l.lookup y = r) : (setL l x v).lookup y = r := by rw [lookup_setL, if_neg (beq_eq_false_iff_ne.mp h)]; exact e
theorem if_t {p q : Prop} (h : p) : if true = true then p else q := h
theorem if_f {p q : Prop} (h : q) : if false = true then p else q := h
theorem if_b {b : Bool} {p q : Prop} (h1 : b = true → p) (h2 : b = false → q) : if b = true then p else q := by
 cases b
 ·exact h2 rfl
 ·exact h1 rfl
end
end
section
section
variable {C : Cx} {A : Around} {env : Env} {ρ : Loc} {σ : Sto}
theorem G.growA {η : Sto} {s : Shared} {a : Addr} {o : MO} (g : G C σ η s) (e : σ a = some o) {h' : Heap} {tk : Nat} (k : ∀ b o, s.heap.get? b = some o → h'.get? b = some o) : G C σ η { s with heap := h', toks := tk } := by
 refine xe11 (g.atS e) fun d r => ?_
 refine xe11 r.some fun ob e' => ?_
 have := g.st.ge (add_left e)
 refine xe12 g.st.rep fun δ r1 r2 => ?_
 exact ⟨g.dj, ⟨fun b o q => k _ _ (g.st.keep b o q), Nat.le_trans this (Nat.le_of_lt (Heap.lt_size (k _ _ e'))), δ, fun a o e => ⟨(r1 a o e).1, (r1 a o e).2.mv (k _) fun U => k _⟩, r2⟩, g.gens, g.os⟩
theorem CALL_list_list {a : Addr} {xs : List MV} {Q : MV → Sto → Prop} (e : σ a = some (.list xs)) (hz : xs.length ≤ 1000000) (h : ∀ d, σ d = none → Q (.ref d) (σ.set d (.list xs))) : CALL C A (.type "list") [.ref a] σ Q := by
 intro fv vs e1 e2 η s g
 obtain rfl := MV.of_type e1
 refine xe12 (args1 e2) fun x eq1 ex => ?_; obtain rfl := eq1
 obtain rfl := MV.of_ref ex
 refine xe22 (list_open g e) fun its n ho hm => ?_
 refine call_list_seq a (.inl rfl) ho rfl rfl (fun h' c' hk hn => ?_) (le_line (by rw [list_size hm]; lia))
 have f := g.fresh (Nat.le_refl s.heap.objs.size)
 exact ⟨_, g.setS f.2 (s' := { s with heap := h' }) (g.st.new (o' := .list xs) hk (Nat.le_of_lt (Heap.lt_size hn)) (Nat.le_refl _) rfl fun d => show ∃ its n, _ from ⟨_, _, hn, hm⟩) rfl rfl, h _ f.1⟩
theorem CALL_abs {i : Int} {Q : MV → Sto → Prop} (h : Q (.int (if i < 0 then -i else i)) σ) : CALL C A (.builtin "abs") [.int i] σ Q := by
 intro fv vs e1 e2 η s g
 obtain rfl := MV.of_builtin e1
 refine xe12 (args1 e2) fun x eq1 ex => ?_; obtain rfl := eq1
 refine xe11 (MV.of_int ex) fun t eq1 => ?_; obtain rfl := eq1
 exact call_abs_int fun u tk => ⟨σ, g.tok, h⟩
theorem any_range : ∀ (bs : List Bool), ((List.range bs.length).any fun i => (bs[i]?).getD false) = bs.any id
 | [] => rfl
 | b :: r => by
  rw [List.length_cons, List.range_succ_eq_map, List.any_cons, List.any_map, List.any_cons, ← any_range r]
  rfl
theorem CALL_any {a : Addr} {bs : List Bool} {Q : MV → Sto → Prop} (b : A.handled = none) (e : σ a = some (.list (bs.map .bool))) (h : Q (.bool (bs.any id)) σ) : CALL C A (.builtin "any") [.ref a] σ Q := by
 intro fv vs e1 e2 η s g
 obtain rfl := MV.of_builtin e1
 refine xe12 (args1 e2) fun x eq1 ex => ?_; obtain rfl := eq1
 obtain rfl := MV.of_ref ex
 refine xe22 (list_open g e) fun its n ho hm => ?_
 have hL : s.heap.IsList a its := ⟨_, ho, rfl, n, rfl⟩
 have hlt : a < s.heap.objs.size := Heap.lt_size ho
 refine call_any_walk (wpAny_pyIter_list hL ?_)
 refine ⟨s.heap.objs.size, [s.heap.objs.size, a], [s.heap.objs.size], its.size, _, _, fun i => (bs[i]?).getD false, rfl, Walks.list (A := A.in1) b _ a (Nat.ne_of_lt hlt) its,
  ⟨⟨_, Heap.get?_push_size _ rfl, rfl, rfl⟩, hL.push _⟩, fun i v s' Q' E' hP hQ => ?_, fun h' tk hk => ?_⟩
 ·have q : (its.toList.map MV.of)[i]? = some (MV.of v) := by rw [List.getElem?_map, Array.getElem?_toList]; rw [hP]; rfl
  rw [hm, List.getElem?_map] at q
  refine xe12 (Option.map_eq_some_iff.mp q) fun bv q1 q2 => ?_
  obtain rfl := MV.of_bool q2.symm
  have : (bs[i]?).getD false = bv := by rw [q1]; rfl
  have hQ' : Q' bv s' := this ▸ hQ
  exact wpAny_truthy_bool hQ'
 ·have hz : its.size = bs.length := by rw [list_size hm, List.length_map]
  rw [hz, any_range]
  have hk' : ∀ c o, s.heap.get? c = some o → h'.get? c = some o := fun c o ec => hk c o (by simpa using Nat.ne_of_lt (Heap.lt_size ec)) (Heap.get?_push_of_some _ ec)
  exact ⟨σ, g.growA e hk', h⟩
noncomputable def KT (C : Cx) (σ : Sto) (x : MV) (t : Value) : Prop := ∀ η s xr, MV.of xr = x → G C σ η s → xr ≠ .builtin "__main__.__loader__#opaque" ∧ ∃ H, KitX C.K xr t H ∧ H s.heap
theorem KT_none : KT C σ .none (.type "NoneType") := fun η s xr e g => by obtain rfl := MV.of_none e; exact ⟨nofun, _, kitx_none, trivial⟩
theorem KT_str {x : Str} : KT C σ (.str x) (.type "str") := fun η s xr e g => by refine xe11 (MV.of_str e) fun t eq1 => ?_; obtain rfl := eq1; exact ⟨nofun, _, kitx_str, trivial⟩
theorem KT_bool {x : Bool} : KT C σ (.bool x) (.type "bool") := fun η s xr e g => by obtain rfl := MV.of_bool e; exact ⟨nofun, _, kitx_bool, trivial⟩
theorem KT_list {a : Addr} {xs : List MV} (e : σ a = some (.list xs)) : KT C σ (.ref a) (.type "list") := fun η s xr ex g => by
 obtain rfl := MV.of_ref ex
 refine xe22 (list_open g e) fun its n ho hm => ?_
 exact ⟨nofun, _, kitx_list, ⟨_, ho, rfl⟩⟩
theorem KT_tuple {a : Addr} {xs : List MV} (e : σ a = some (.tuple xs)) : KT C σ (.ref a) (.type "tuple") := fun η s xr ex g => by
 obtain rfl := MV.of_ref ex
 refine xe22 (tuple_open g e) fun its n ho hm => ?_
 exact ⟨nofun, _, kitx_tuple, ⟨_, ho, rfl⟩⟩
structure OwnKind (K : Frag) (D : Addr) : Prop where
 pg : plainGet K D "__class__" = true
 hd : hasDictIn K D = true
 fi : findIn K (.ref D) "__class__" = some (some (.builtin "object.__class__"))
 sp : specialIn K (.builtin "object.__class__") "__get__" = some (some (.builtin "getset_descriptor.__get__"))
 tk : takesIn K (.builtin "object.__class__") = some true
 mr : mroIn K D (.type "object") = some true
theorem KT_inst {a D : Addr} {fs : Loc} (e : σ a = some (.inst D fs)) (ok : OwnKind C.K D) : KT C σ (.ref a) (.ref D) := fun η s xr ex g => by
 obtain rfl := MV.of_ref ex
 obtain ⟨d, mA, o, es, ep, ho, hd, hk, hm, hn, I, h3, h4, _⟩ := inst_open g e
 exact ⟨nofun, _, kitx_own ok.pg ok.hd ok.fi ok.sp ok.tk ok.mr, I⟩
theorem CALL_isinst {x : MV} {D : Addr} {t : Value} {b : Bool} {Q : MV → Sto → Prop} (k : KT C σ x t) (e : kitOne C.K t (.ref D) = some b) (h : Q (.bool b) σ) : CALL C A (.builtin "isinstance") [x, .ref D] σ Q := by
 intro fv vs e1 e2 η s g
 obtain rfl := MV.of_builtin e1
 refine xe23 (args2 e2) fun x c eq2 ex ec => ?_; obtain rfl := eq2
 obtain rfl := MV.of_ref ec
 obtain ⟨hb, H, Z, p⟩ := k η s _ ex g
 exact kia_one Z g.X p e hb fun tk => ⟨σ, g.tok, h⟩
theorem CALL_isinst2 {x : MV} {p : Addr} {t : Value} {b : Bool} {t1 t2 : String} {Q : MV → Sto → Prop} (k : KT C σ x t) (ep : σ p = some (.tuple [.type t1, .type t2])) (e : kitAny C.K t [.type t1, .type t2] = some b) (h : Q (.bool b) σ) : CALL C A (.builtin "isinstance") [x, .ref p] σ Q := by
 intro fv vs e1 e2 η s g
 obtain rfl := MV.of_builtin e1
 refine xe23 (args2 e2) fun x c eq2 ex ec => ?_; obtain rfl := eq2
 obtain rfl := MV.of_ref ec
 obtain ⟨hb, H, Z, p⟩ := k η s _ ex g
 refine xe22 (tuple_open g ep) fun its n ho hm => ?_
 refine xe23 (args2 hm) fun y z hyz ey ez => ?_
 obtain rfl := MV.of_type ey
 obtain rfl := MV.of_type ez
 have : its = [.type t1, .type t2].toArray := by rw [← hyz]
 subst this
 exact kia_tup Z g.X p ho e hb fun tk => ⟨σ, g.tok, h⟩
theorem isStr_of {x : Str} {t : Tok} : C.sk.is x (.str x t) = true := by simp [Cx.sk, PySem.strKind, Value.isStrOf]
theorem valueAt_lookup (kvs : List (Str × Value)) (k : Str) : (valueAt kvs k).map MV.of = (kvs.map fun p => (p.1, MV.of p.2)).lookup k := by
 unfold valueAt
 induction kvs with
 | nil => rfl
 | cons p r ih =>
  obtain ⟨x, v⟩ := p
  rw [List.find?_cons, List.map_cons, List.lookup_cons]
  by_cases h : x = k
  ·subst h; simp
  ·have h1 : (k == x) = false := beq_eq_false_iff_ne.mpr (Ne.symm h)
   simp only [h, decide_false, h1]
   exact ih
theorem stored_new {kvs : List (Str × Value)} {k : Str} {v : Value} (h : (kvs.map fun p => (p.1, MV.of p.2)).lookup k = none) : stored kvs k v = kvs ++ [(k, v)] := by
 unfold stored
 rw [if_neg]
 intro q
 rw [List.any_eq_true] at q
 refine xe12 q fun p hp e => ?_
 have := List.lookup_eq_none_iff.mp h (p.1, MV.of p.2) (List.mem_map_of_mem hp)
 simp only [decide_eq_true_eq] at e
 simp [e] at this
theorem dict_map {η : Sto} {s : Shared} {a : Addr} {es : Loc} {ep : Nat} (g : G C σ η s) (e : σ a = some (.dict es ep)) : ∃ kvs, s.heap.DictAt C.sk a kvs ep ∧ kvs.map (fun p => (p.1, MV.of p.2)) = es := (g.atS e).choose_spec
theorem dict_far {η : Sto} {s : Shared} {a : Addr} {o : MO} (hs : 1 < C.h₀.objs.size) (g : G C σ η s) (e : σ a = some o) : a ≠ sysModules := fun q => by
 have := g.st.ge (add_left e)
 subst q
 exact absurd (Nat.lt_of_lt_of_le hs this) (by decide)
theorem PK.big (hK : PK C) : 1 < C.h₀.objs.size := by
 have : C.K.lookup 63 = some k63 := by rw [hK]; rfl
 exact Nat.lt_trans (by decide) (Heap.lt_size (C.X 63 _ this))
theorem ITRK {a : Addr} {es : Loc} {ep : Nat} {P : IK → Sto → Prop} (hs : 1 < C.h₀.objs.size) (e : σ a = some (.dict es ep)) (h : P (.keys a 0 es.length ep) σ) : ITR C A (.ref a) σ P := fun xr η s ex g => ITR_dict e (dict_far hs g e) h xr η s ex g
theorem CMP_in_dict {a : Addr} {es : Loc} {ep : Nat} {x : Str} {Q : MV → Sto → Prop} (hs : 1 < C.h₀.objs.size) (e : σ a = some (.dict es ep)) (h : Q (.bool (es.lookup x).isSome) σ) : CMP C A .In (.str x) (.ref a) σ Q := fun av bv e1 e2 η s g => by
 obtain rfl := MV.of_ref e2
 refine xe11 (MV.of_str e1) fun t eq1 => ?_; obtain rfl := eq1
 refine xe12 (dict_map g e) fun kvs hd hm => ?_
 have hs : a ≠ sysModules := dict_far hs g e
 refine wpAny_in_of (knd := C.sk) (k := x) (isStr_of (C := C)) (by simpa using hs) hd.dictOf.mapOf ⟨σ, g.tok, ?_⟩
 have := valueAt_lookup kvs x
 rw [hm] at this
 rw [← this, Option.isSome_map] at h
 exact h
theorem CMP_notin_dict {a : Addr} {es : Loc} {ep : Nat} {x : Str} {Q : MV → Sto → Prop} (hs : 1 < C.h₀.objs.size) (e : σ a = some (.dict es ep)) (h : Q (.bool (!(es.lookup x).isSome)) σ) : CMP C A .NotIn (.str x) (.ref a) σ Q := fun av bv e1 e2 η s g => by
 obtain rfl := MV.of_ref e2
 refine xe11 (MV.of_str e1) fun t eq1 => ?_; obtain rfl := eq1
 refine xe12 (dict_map g e) fun kvs hd hm => ?_
 have hs : a ≠ sysModules := dict_far hs g e
 refine wpAny_notIn_of (knd := C.sk) (k := x) (isStr_of (C := C)) (by simpa using hs) hd.dictOf.mapOf ⟨σ, g.tok, ?_⟩
 have := valueAt_lookup kvs x
 rw [hm] at this
 rw [← this, Option.isSome_map] at h
 exact h
theorem SUB_dict {value slice : Expr} {a : Addr} {es : Loc} {ep : Nat} {x : Str} {v : MV} {Q : MV → Sto → Prop} (e : σ a = some (.dict es ep)) (hv : es.lookup x = some v) (h : Q v σ) : SUB C A value slice (.ref a) (.str x) σ Q := by
 intro ov iv eo ei η s g
 obtain rfl := MV.of_ref eo
 refine xe11 (MV.of_str ei) fun t eq1 => ?_; obtain rfl := eq1
 refine xe12 (dict_map g e) fun kvs hd hm => ?_
 have := valueAt_lookup kvs x
 rw [hm, hv] at this
 refine xe12 (Option.map_eq_some_iff.mp this) fun vr e1 eq2 => ?_; obtain rfl := eq2
 refine xe11 (subscripted_any slice (.ref a) (.str x t)) fun ops hs => ?_
 exact tail_any hd.dictOf.mapOf.typeIs slot_dict_getitem.lookup (wpAny_getItem_of (knd := C.sk) (k := x) (isStr_of (C := C)) hd.dictOf.mapOf e1 ⟨σ, g.tok, h⟩) hs
theorem SETI_dict {a : Addr} {es : Loc} {ep : Nat} {x : Str} {v : MV} {Q : Sto → Prop} (e : σ a = some (.dict es ep)) (hz : es.length ≤ 1000) (hn : es.lookup x = none) (h : ∀ ep', Q (σ.set a (.dict (es ++ [(x, v)]) ep'))) : SETI C A (.ref a) (.str x) v σ Q := by
 intro ov iv vr eo ei ev η s g
 obtain rfl := MV.of_ref eo
 refine xe11 (MV.of_str ei) fun t eq1 => ?_; obtain rfl := eq1
 refine xe12 (dict_map g e) fun kvs hd hm => ?_
 have hl : kvs.length = es.length := by rw [← hm, List.length_map]
 refine wpAny_setItem_pairs (knd := C.sk) (k := x) (isStr_of (C := C)) hd.dictOf (fun h' hd' hs' => ?_) (le_line (by lia))
 rw [stored_new (by rw [hm]; exact hn)] at hd'
 refine xe11 hd'.dictAt fun ep' hd'' => ?_
 refine ⟨_, g.setS (g.dj a _ e) (s' := { s with heap := h', toks := s.toks + 1 }) (g.st.set (o' := .dict (es ++ [(x, v)]) ep') (add_left e) rfl rfl hs' fun d => show ∃ kvs, _ from ⟨_, hd'', by rw [List.map_append, hm, ← ev]; rfl⟩) rfl rfl, h _⟩
theorem EV_dict0 {pos : Pos} {Q : MV → Sto → Prop} (h : ∀ d ep, σ d = none → Q (.ref d) (σ.set d (.dict [] ep))) : EV C A env (.Dict [] [] pos) ρ σ Q := fun ok η s g => by
 rw [eval_Dict_empty]
 refine wpAny_bind (wpAny_standAt ?_)
 unfold newDict
 refine wpAny_newObj_type ?_
 have hM : (s.heap.push { cls := .type "dict", data := .dict #[] }).DictAt C.sk s.heap.objs.size [] 0 :=
  ⟨_, #[], Heap.get?_push_size _ rfl, ⟨rfl, rfl, rfl⟩, rfl, fun U h => by simp at h, .nil, by simp⟩
 have f := g.fresh (Nat.le_refl s.heap.objs.size)
 exact ⟨_, g.setS f.2 (s' := { s with heap := s.heap.push { cls := .type "dict", data := .dict #[] } }) (g.st.new (o' := .dict [] 0) (fun b o e => Heap.get?_push_of_some _ e) (by show _ ≤ _; rw [Heap.size_push]; exact Nat.le_succ _) (Nat.le_refl _) rfl fun d => show ∃ kvs, _ from ⟨[], hM, rfl⟩) rfl rfl, h _ _ f.1⟩
end
end
section
theorem rv_owner : Manifest.owners.lookup (String.ofList ['d', 'e', 's', 'r', 'e', 'v', 'e', 'r'].reverse) = some Manifest.sig_reversed := by kernel_rfl
theorem rv_init : Slot "reversed" "__init__" "object.__init__" :=
 .of (owner := "object") (n := "__init__") (by rw [typeLookup_type, builtinLookup_eq_fast]; kernel_rfl) (by decide +kernel) (by decide +kernel) (by decide +kernel)
  (by first | exact .inl (by decide +kernel) | exact .inr (by decide +kernel)) (by rw [isSubtype_type]; kernel_rfl)
theorem rv_next : Slot "reversed" "__next__" "reversed.__next__" :=
 .of (owner := "reversed") (n := "__next__") (by rw [typeLookup_type, builtinLookup_eq_fast]; kernel_rfl) (by decide +kernel) (by decide +kernel) (by decide +kernel)
  (by first | exact .inl (by decide +kernel) | exact .inr (by decide +kernel)) (by rw [isSubtype_type]; kernel_rfl)
theorem rv_iter : Slot "reversed" "__iter__" "reversed.__iter__" :=
 .of (owner := "reversed") (n := "__iter__") (by rw [typeLookup_type, builtinLookup_eq_fast]; kernel_rfl) (by decide +kernel) (by decide +kernel) (by decide +kernel)
  (by first | exact .inl (by decide +kernel) | exact .inr (by decide +kernel)) (by rw [isSubtype_type]; kernel_rfl)
theorem rv_entry_next : entryFor table "reversed.__next__" = some Builtin.«reversed.__next__» := entryFor_of_tree (by kernel_rfl)
theorem rv_entry_iter : entryFor table "reversed.__iter__" = some Builtin.«dict_keyiterator.__iter__» :=
 entryFor_alias (id' := "dict_keyiterator.__iter__") (by kernel_rfl) (by first | rfl | decide +kernel | (unfold String.splitOn; simp +decide [String.splitOnAux])) (by decide +kernel) (by kernel_rfl)
theorem rv_args_next (a : Value) : argsOk "reversed.__next__" ⟨[a], []⟩ := by
 unfold argsOk; rw [signature?_of (id := "reversed.__next__") (n := ['_', '_', 't', 'x', 'e', 'n', '_', '_']) (o := ['d', 'e', 's', 'r', 'e', 'v', 'e', 'r']) (by kernel_rfl) rv_owner]; kernel_rfl
theorem rv_args_iter (a : Value) : argsOk "reversed.__iter__" ⟨[a], []⟩ := by
 unfold argsOk; rw [signature?_of (id := "reversed.__iter__") (n := ['_', '_', 'r', 'e', 't', 'i', '_', '_']) (o := ['d', 'e', 's', 'r', 'e', 'v', 'e', 'r']) (by kernel_rfl) rv_owner]; kernel_rfl
theorem rv_called : TypeCalled "reversed" "reversed.__new__" "object.__init__" :=
 ⟨by decide +kernel, F.create_reversed, ⟨_, _, F.mro_reversed⟩, F.made_reversed, F.plain_reversed_new, F.sub_reversed_self, rv_init⟩
theorem rv_tuple_none : typeLookup (.type "tuple") "__reversed__" = pure none := by rw [typeLookup_type, builtinLookup_eq_fast]; kernel_rfl
theorem rv_sub_dict : isSubtype (.type "tuple") (.type "dict") = pure false := by rw [isSubtype_type]; kernel_rfl
noncomputable def trevObj (l : Addr) (i : Int) : Obj := { cls := .type "reversed", data := .fields #[.ref l, rawInt i] }
theorem rv_new {prog : Program} {w : World} {A B : Around} {R : Result → Shared → Prop} {s : Shared} {l : Addr} {items : Array Value} {n : Nat} (hl : s.heap.get? l = some ⟨.type "tuple", none, .seq items n, #[]⟩) (hz : items.size ≤ 1000000)
  (h : ∀ tk, R (.ok (.ret (.ref s.heap.objs.size))) { s with heap := s.heap.push (trevObj l ((items.size : Int) - 1)), toks := tk }) :
  wpAny (model prog w) A (Builtin.«reversed.__new__» ⟨[.type "reversed", .ref l], []⟩) (fun fin s' => match fin with | .done f => R (.ok f) s' | .again c => c.quiet = true ∧ codeAny (model prog w) B c R s') (fun e s' => R (.error e) s') s := by
 have hT : s.TypeIs (.ref l) "tuple" := ⟨_, hl, rfl⟩
 unfold Builtin.«reversed.__new__»
 refine wpAny_bind (wpAny_of_eq (newClass_reversed _) ?_)
 try dsimp only
 refine wpAny_bind (wpAny_of_eq (a := ()) (by first | rfl | kernel_rfl) ?_)
 refine wpAny_bind (wpAny_of_eq (a := ()) (by first | rfl | kernel_rfl) ?_)
 try dsimp only
 refine wpAny_bind (wpAny_specialOf hT rv_tuple_none ?_)
 try dsimp only
 k_delta "hasItemSlot"
 refine wpAny_bind (wpAny_bind (wpAny_isInstance hT rv_sub_dict ?_))
 simp only [Bool.false_eq_true, if_false]
 refine wpAny_bind (wpAny_specialOf hT PySem.F.slot_tuple_getitem.lookup ?_)
 dsimp only
 rw [if_pos (by decide)]
 refine wpAny_pure ?_
 simp only [Bool.not_true, Bool.false_eq_true, if_false]
 refine wpAny_bind (PySem.P.len_tuple (n := n) hl (by lia) ?_)
 refine wpAny_bind (m := asInt? _) (wpAny_pure ?_)
 dsimp only
 unfold Builtin.SmallTypes.newRecord
 dsimp only
 refine wpAny_bind (wpAny_newObj_type ?_)
 exact wpAny_pure (h _)
theorem call_reversed_tuple {prog : Program} {w : World} {A : Around} {E : Value → Shared → Prop} {Q : Value → Shared → Prop} {s : Shared} {l : Addr} {items : Array Value} {n : Nat} (hl : s.heap.get? l = some ⟨.type "tuple", none, .seq items n, #[]⟩) (hz : items.size ≤ 1000000)
  (h : ∀ tk, Q (.ref s.heap.objs.size) { s with heap := s.heap.push (trevObj l ((items.size : Int) - 1)), toks := tk }) : wpAny (model prog w) A (call (.type "reversed") [.ref l]) Q E s :=
 callType_new rv_called (by decide) (F.typeCall_reversed_1 _) (F.newCall_reversed_1 _) (fun obj => PySem.F.args_object_init_2 obj _) F.entry_reversed_new
  (S := fun A R s => (s.heap.get? l = some ⟨.type "tuple", none, .seq items n, #[]⟩ ∧ ∀ tk, R (.ok (.ret (.ref s.heap.objs.size))) { s with heap := s.heap.push (trevObj l ((items.size : Int) - 1)), toks := tk }))
  (by intro prog w A R s hs; exact rv_new hs.1 hz hs.2) ⟨hl, fun tk => ⟨⟨_, Heap.get?_push_size _ rfl, rfl⟩, h tk⟩⟩
noncomputable def IsTRev (h : Heap) (a l : Addr) (i : Int) : Prop := h.get? a = some (trevObj l i)
theorem pyIter_trev {prog : Program} {w : World} {A : Around} {E : Value → Shared → Prop} {Q : Value → Shared → Prop} {s : Shared} {it l : Addr} {i : Int} (hit : IsTRev s.heap it l i) (h : Q (.ref it) s) : wpAny (model prog w) A (pyIter (.ref it)) Q E s := by
 have hT : s.TypeIs (.ref it) "reversed" := ⟨_, hit, rfl⟩
 refine wpAny_pyIter_slot hT rv_iter (wpAny_call_entry rv_iter hT rv_entry_iter ?_ (rv_args_iter _))
 show wpAny _ _ (ret (.ref it)) _ _ s
 exact wpAny_pure ⟨_, rfl, "reversed", _, hT, rv_next.lookup, h⟩
theorem pyNext_trev_item {prog : Program} {w : World} {A : Around} {E : Value → Shared → Prop} {s : Shared} {it l : Addr} {i n : Nat} {items : Array Value} {x : Value} {Q : Option Value → Shared → Prop} (hit : IsTRev s.heap it l (i : Int)) (hl : s.heap.get? l = some ⟨.type "tuple", none, .seq items n, #[]⟩) (hz : items.size ≤ 1000000) (hx : items[i]? = some x)
  (hQ : ∀ h' tk, IsTRev h' it l ((i : Int) - 1) → Heap.SameBut it s.heap h' → Q (some x) { s with heap := h', toks := tk }) : wpAny (model prog w) A (pyNext (.ref it)) Q E s := by
 have hT : s.TypeIs (.ref it) "reversed" := ⟨_, hit, rfl⟩
 have hTl : s.TypeIs (.ref l) "tuple" := ⟨_, hl, rfl⟩
 have hd : (trevObj l (i : Int)).data = .fields #[.ref l, rawInt i] := rfl
 have hlt : i < items.size := (Array.getElem?_eq_some_iff.mp hx).1
 unfold pyNext
 refine wpAny_bind (wpAny_attempt (wpAny_callSpecial?_slot (name := Str.ofString "__next__") hT rv_next
  (wpAny_call_entry rv_next hT rv_entry_next ?_ (rv_args_next _))))
 unfold Builtin.«reversed.__next__»
 refine wpAny_bind (wpAny_of_eq (a := (Value.ref it, [])) rfl ?_)
 try dsimp only
 refine wpAny_bind (wpAny_field hit hd (x := .ref l) rfl ?_)
 refine wpAny_bind (wpAny_field hit hd (x := rawInt (i : Int)) rfl ?_)
 show wpAny _ _ (if (i : Int) < 0 then _ else _) _ _ s
 rw [if_neg (by lia)]
 refine wpAny_bind (wpAny_specialOf hTl PySem.F.slot_tuple_getitem.lookup ?_)
 rw [if_neg (by decide)]
 refine wpAny_bind (wpAny_mkInt ?_)
 refine wpAny_bind (wpAny_attempt (PySem.P.getItem_tuple (n := n) (t := l) (items := items) (s := { s with toks := s.toks + 1 }) hl (by lia) (by lia) (k := i) (by unfold seqIndex?; simp; lia) hx ?_))
 dsimp only
 refine wpAny_bind (wpAny_field (s := { s with toks := s.toks + 1 }) hit hd (x := rawInt (i : Int)) rfl ?_)
 dsimp only [rawInt]
 refine wpAny_bind (wpAny_setField (s := { s with toks := s.toks + 1 }) hit hd (by simp) ?_)
 refine wpAny_pure ⟨x, rfl, wpAny_pure (hQ _ _ ?_ (Heap.SameBut.update ..))⟩
 exact Heap.get?_update_self _ hit rfl
theorem pyNext_trev_end {prog : Program} {w : World} {A : Around} {E : Value → Shared → Prop} {s : Shared} {it l : Addr} {Q : Option Value → Shared → Prop} (hh : A.handled = none) (hit : IsTRev s.heap it l (-1))
  (hQ : ∀ h', Heap.ExtBut it s.heap h' → Q none { s with heap := h' }) : wpAny (model prog w) A (pyNext (.ref it)) Q E s := by
 have hT : s.TypeIs (.ref it) "reversed" := ⟨_, hit, rfl⟩
 have hd : (trevObj l (-1)).data = .fields #[.ref l, rawInt (-1)] := rfl
 unfold pyNext
 refine wpAny_bind (wpAny_attempt (wpAny_callSpecial?_slot (name := Str.ofString "__next__") hT rv_next
  (wpAny_call_entry rv_next hT rv_entry_next ?_ (rv_args_next _))))
 unfold Builtin.«reversed.__next__»
 refine wpAny_bind (wpAny_of_eq (a := (Value.ref it, [])) rfl ?_)
 try dsimp only
 refine wpAny_bind (wpAny_field hit hd (x := .ref l) rfl ?_)
 refine wpAny_bind (wpAny_field hit hd (x := rawInt (-1)) rfl ?_)
 show wpAny _ _ (if (-1 : Int) < 0 then _ else _) _ _ s
 rw [if_pos (by decide)]
 refine wpAny_bind (wpAny_rule ?_)
 k_delta "reversedEnd"
 refine wpAny_bind (wpAny_bind (wpAny_setField hit hd (by simp) ?_))
 have hit1 := Heap.get?_update_self (a := it) (f := Obj.mapFields fun x => x.setIfInBounds 1 (rawInt (-1))) (h := s.heap) hit rfl
 refine wpAny_setField (s := { s with heap := s.heap.update it (Obj.mapFields fun x => x.setIfInBounds 1 (rawInt (-1))) }) (vs := #[.ref l, rawInt (-1)]) hit1 rfl (by simp) ?_
 have hx : Heap.ExtBut it s.heap ((s.heap.update it (Obj.mapFields fun x => x.setIfInBounds 1 (rawInt (-1)))).update it (Obj.mapFields fun x => x.setIfInBounds 0 .none)) := fun b o hb e =>
  ((Heap.get?_update_other _ _ (Ne.symm hb)).trans (Heap.get?_update_other _ _ (Ne.symm hb))).trans e
 first
 | show wpAny _ _ (newExc (.type "StopIteration") [] >>= _) _ _ _
 | (refine wpAny_bind ?_; show wpAny _ _ (newExc (.type "StopIteration") [] >>= _) _ _ _)
 refine wpAny_bind ?_
 simp only [newExc, newTuple]
 refine wpAny_bind (wpAny_newObj_type ?_ (by size_fits))
 refine wpAny_bind (m := firstArgMember _ _) (wpAny_of_eq (a := Value.none) (by first | rfl | (simp only [firstArgMember]; rfl)) ?_)
 refine wpAny_newObj_type ?_ (by size_fits)
 simp only [raiseNew]
 refine wpAny_bind (wpAny_handled ?_)
 first | rw [show A.in1.handled = none from hh] | rw [hh]
 refine wpAny_bind (wpAny_pure (wpAny_throw ?_))
 refine wpAny_bind (wpAny_isInstance (T := "StopIteration") (b := true) ⟨_, Heap.get?_push_size _ rfl, rfl⟩ isSubtype_stop ?_)
 exact wpAny_pure (hQ _ ((hx.push _).push _))
section
variable {C : Cx} {A : Around} {env : Env} {ρ : Loc} {σ : Sto}
theorem CALL_reversedT {a : Addr} {xs : List MV} {Q : MV → Sto → Prop} (e : σ a = some (.tuple xs)) (hz : xs.length ≤ 1000000) (h : ∀ d, σ d = none → Q (.ref d) (σ.set d (.it (.trev a ((xs.length : Int) - 1))))) : CALL C A (.type "reversed") [.ref a] σ Q := by
 intro fv vs e1 e2 η s g
 obtain rfl := MV.of_type e1
 refine xe12 (args1 e2) fun x eq1 ex => ?_; obtain rfl := eq1
 obtain rfl := MV.of_ref ex
 refine xe22 (tuple_open g e) fun its n ho hm => ?_
 refine call_reversed_tuple ho (by rw [list_size hm]; exact hz) fun tk => ⟨_, (new_seq (ob := trevObj a ((its.size : Int) - 1)) (o := .it (.trev a ((xs.length : Int) - 1))) g rfl rfl (fun h' e d => ?_)).tok, h _ (g.fresh (Nat.le_refl _)).1⟩
 rw [list_size hm] at e
 exact e
theorem ITR_trev {a d : Addr} {i : Int} {P : IK → Sto → Prop} (e : σ d = none) (h : P (.trev a i) σ) : ITR C A (.ref d) (σ.set d (.it (.trev a i))) P := fun xr η s ex g => by
 obtain rfl := MV.of_ref ex
 refine xe11 (g.atS (Sto.set_self ..)) fun dd r => ?_
 exact pyIter_trev (l := a) (i := i) r ⟨d, _, σ, rfl, g.dj _ _ (Sto.set_self ..), e, g.move e, h⟩
theorem FORL_trev {target : Expr} {body orelse : List Stmt} {a : Addr} {xs : List MV} {i : Nat} {Q : MF → Loc → Sto → Prop} (b : A.handled = none) (e : σ a = some (.tuple xs)) (hz : xs.length ≤ 1000000)
  (h1 : ∀ j v, i = j + 1 → xs[j]? = some v → TURN C A env target body orelse (.trev a ((j : Int) - 1)) v ρ σ Q) (h2 : i = 0 → EX C A env orelse ρ σ Q) (hi : i ≤ xs.length) : FORL C A env target body orelse (.trev a ((i : Int) - 1)) ρ σ Q := fun ok η it s off hn g => by
 refine xe22 (tuple_open g e) fun its n ho hm => ?_
 have hit : IsTRev s.heap it a ((i : Int) - 1) := it_at off g
 refine for_step ?_
 cases i with
 | zero => exact pyNext_trev_end b (by simpa using hit) fun h' he => end_run ok off hn g he (it_old off g) (h2 rfl)
 | succ j =>
  have q : xs[j]? = some xs[j] := List.getElem?_eq_getElem (by lia)
  refine xe12 (list_get hm q) fun y hy ey => ?_
  refine pyNext_trev_item (i := j) (by simpa using hit) ho (by rw [list_size hm]; exact hz) hy fun h' tk hi' hs => ?_
  have g' := it_turn (tk := tk) (k' := .trev a ((j : Int) - 1)) off g hs hi'
  exact go_any (s := { s with heap := h', toks := tk }) hi' rfl (by decide) (turn_run ok off hn ey g' (h1 j _ rfl q))
end
end
section
theorem comp_step {M : Program} {w : World} {A : Around} {R : Result → Shared → Prop} {elt target iter : Expr} {ifs : List Expr} {scope : Scope} {pos : Pos} {it acc : Value} {env : Env} {s : Shared}
  (turn : wpAny (model M w) A (pyNext it) (fun r s₁ => match r with
   | none => R (.ok .next) s₁
   | some v => wpAny (model M w) A (letOwnedTupleGo target it v) (fun U s₀ => wpAny (model M w) A (assign target env v) (fun U s₂ =>
     wpAny (model M w) A (forIn ifs true fun c r => if r = true then do let ok ← isTrue c env (eval c env); pure (ForInStep.yield ok) else pure (ForInStep.yield r)) (fun ok s₃ => if ok = true then
      wpAny (model M w) A (eval elt env) (fun x s₄ => wpAny (model M w) A (call (.builtin "list.append") [acc, x]) (fun U s₅ => codeAny (model M w) A (.compLoop (.ListComp elt [⟨target, iter, ifs, 0⟩] scope pos) 0 it acc env) R s₅) nF s₄) nF s₃
      else codeAny (model M w) A (.compLoop (.ListComp elt [⟨target, iter, ifs, 0⟩] scope pos) 0 it acc env) R s₃) nF s₂) nF s₀) nF s₁) nF s) :
  codeAny (model M w) A (.compLoop (.ListComp elt [⟨target, iter, ifs, 0⟩] scope pos) 0 it acc env) R s := by
 refine codeAny_of_tree ?_
 show wpAny _ A ((compTurn (.ListComp elt [⟨target, iter, ifs, 0⟩] scope pos) 0 it acc env).onRaise (fun x => do noteFrame x env; theTreesLotGoes x)) _ _ s
 refine wpAny_noted ?_
 rw [compTurn_list]
 refine wpAny_bind (wpAny_standAt (wpAny_bind (wpAny_mono turn (fun r s₁ h₁ => ?_) fun U U h' => h'.elim)))
 cases r with
 | none => exact wpAny_pure h₁
 | some v =>
  refine wpAny_bind (wpAny_mono h₁ (fun U s₀ h₀' => ?_) fun U U h' => h'.elim)
  refine wpAny_bind (wpAny_mono h₀' (fun U s₂ h₂ => ?_) fun U U h' => h'.elim)
  refine wpAny_bind (wpAny_mono h₂ (fun okb s₃ h₃ => ?_) fun U U h' => h'.elim)
  cases okb with
  | false => exact wpAny_pure ⟨rfl, h₃⟩
  | true => exact wpAny_bind (wpAny_bind (wpAny_mono h₃ (fun x s₄ h₄ => wpAny_bind (wpAny_mono h₄ (fun U s₅ h₅ => wpAny_pure (wpAny_pure ⟨rfl, h₅⟩)) fun U U h' => h'.elim)) fun U U h' => h'.elim))
section
variable {C : Cx} {A : Around} {env cenv : Env} {ρ : Loc} {σ : Sto}
noncomputable def CMPL (C : Cx) (A : Around) (env : Env) (elt target iter : Expr) (ifs : List Expr) (scope : Scope) (pos : Pos) (acc : Addr) (k : IK) (ρ : Loc) (σ : Sto) (Q : Loc → Sto → Prop) : Prop := EnvOk env → ∀ η it s, offF env it → η it = none → G C σ (FR env ρ (η.set it (.it k))) s →
 codeAny C.M A (.compLoop (.ListComp elt [⟨target, iter, ifs, 0⟩] scope pos) 0 (.ref it) (.ref acc) env) (fun r s' => match r with | .ok _ => ∃ ρ' σ', G C σ' (FR env ρ' η) s' ∧ Q ρ' σ' | .error _ => False) s
theorem G.drop_ext {η : Sto} {s : Shared} {a : Addr} {o : MO} (g : G C σ (η.set a o) s) (hη : η a = none) {h' : Heap} (he : Heap.ExtBut a s.heap h') (hs : C.h₀.objs.size ≤ h'.objs.size) : G C σ η { s with heap := h' } := by
 have hσ : σ a = none := g.eta (Sto.set_self ..)
 have no : (σ.add η) a = none := by simp only [Sto.add, hσ, hη]; rfl
 have ga := g.st.ge (g.right (Sto.set_self ..))
 refine xe12 g.st.rep fun δ r1 r2 => ?_
 have inc : ∀ b ob, (σ.add η) b = some ob → (σ.add (η.set a o)) b = some ob := fun b ob e => by
  have hb : b ≠ a := fun e' => by rw [e', no] at e; exact nn e
  simp only [Sto.add, Sto.set_ne _ _ hb] at e ⊢
  exact e
 refine ⟨fun b ob e => ?_, ⟨fun b ob e => he b ob (fun q => absurd (Heap.lt_size e) (Nat.not_lt.mpr (q ▸ ga))) (g.st.keep b ob e), hs, δ, fun b ob e => ⟨(r1 b ob (inc _ _ e)).1, (r1 b ob (inc _ _ e)).2.mv (fun U => he b _ fun e' => by rw [e', no] at e; exact nn e) fun hi U => he _ _ ?_⟩, fun b D fs e => ⟨(r2 b D fs (inc _ _ e)).1, ?_, fun c E gs e' q => (r2 b D fs (inc _ _ e)).2.2 c E gs (inc _ _ e') q⟩⟩, g.gens, g.os⟩
 ·have hb : b ≠ a := fun e' => by rw [e', hσ] at e; exact nn e
  have := g.dj b ob e
  rwa [Sto.set_ne _ _ hb] at this
 ·cases ob <;> try exact ft hi
  rename_i D fs
  intro q
  have z := (r2 b D fs (inc _ _ e)).2.1
  rw [q, g.right (Sto.set_self ..)] at z
  exact sn z
 ·have z := (r2 b D fs (inc _ _ e)).2.1
  cases q : (σ.add η) (δ b) with
  | none => rfl
  | some o => exact sn ((inc _ _ q).symm.trans z)
noncomputable def CBODY (C : Cx) (A : Around) (env : Env) (elt target iter : Expr) (ifs : List Expr) (scope : Scope) (pos : Pos) (acc : Addr) (k : IK) (ρ : Loc) (σ : Sto) (Q : Loc → Sto → Prop) : Prop :=
 EV C A env elt ρ σ fun y σ₂ => ∃ ys, σ₂ acc = some (.list ys) ∧ ys.length ≤ 1000000 ∧ CMPL C A env elt target iter ifs scope pos acc k ρ (σ₂.set acc (.list (ys ++ [y]))) Q
noncomputable def CTURN (C : Cx) (A : Around) (env : Env) (elt target iter : Expr) (ifs : List Expr) (scope : Scope) (pos : Pos) (acc : Addr) (k : IK) (v : MV) (ρ : Loc) (σ : Sto) (Q : Loc → Sto → Prop) : Prop :=
 ASG C A env target v ρ σ fun ρ₁ σ₁ => match ifs with
  | [] => CBODY C A env elt target iter ifs scope pos acc k ρ₁ σ₁ Q
  | [c] => TST C A env c ρ₁ σ₁ fun b σ₂ => if b = true then CBODY C A env elt target iter ifs scope pos acc k ρ₁ σ₂ Q else CMPL C A env elt target iter ifs scope pos acc k ρ₁ σ₂ Q
  | _ => False
theorem cbody_run {η : Sto} {it acc : Addr} {s : Shared} {elt target iter : Expr} {ifs : List Expr} {scope : Scope} {pos : Pos} {k : IK} {Q : Loc → Sto → Prop} (ok : EnvOk env) (off : offF env it) (hn : η it = none)
  (g : G C σ (FR env ρ (η.set it (.it k))) s) (h : CBODY C A env elt target iter ifs scope pos acc k ρ σ Q) :
  wpAny C.M A (eval elt env) (fun x s₄ => wpAny C.M A (call (.builtin "list.append") [.ref acc, x]) (fun U s₅ => codeAny C.M A (.compLoop (.ListComp elt [⟨target, iter, ifs, 0⟩] scope pos) 0 (.ref it) (.ref acc) env) (fun r s' => match r with | .ok _ => ∃ ρ' σ', G C σ' (FR env ρ' η) s' ∧ Q ρ' σ' | .error _ => False) s₅) nF s₄) nF s := by
 refine wpK (h ok _ s g) fun y s₄ σ₂ g4 hh => ?_
 refine xe13 hh fun ys e hz h4 => ?_
 refine wpK (CALL_append (Q := fun U σ' => σ' = σ₂.set acc (.list (ys ++ [MV.of y]))) e hz rfl _ _ rfl rfl _ _ g4) (fun U s₅ σ' g5 e5 => ?_)
 subst e5
 exact h4 ok η it _ off hn g5
theorem cturn_run {η : Sto} {it acc : Addr} {s : Shared} {elt target iter : Expr} {ifs : List Expr} {scope : Scope} {pos : Pos} {k : IK} {vr : Value} {Q : Loc → Sto → Prop} (ok : EnvOk env) (off : offF env it) (hn : η it = none)
  (g : G C σ (FR env ρ (η.set it (.it k))) s) (h : CTURN C A env elt target iter ifs scope pos acc k (MV.of vr) ρ σ Q) :
  wpAny C.M A (assign target env vr) (fun U s₂ =>
     wpAny C.M A (forIn ifs true fun c r => if r = true then do let ok ← isTrue c env (eval c env); pure (ForInStep.yield ok) else pure (ForInStep.yield r)) (fun ok s₃ => if ok = true then
      wpAny C.M A (eval elt env) (fun x s₄ => wpAny C.M A (call (.builtin "list.append") [.ref acc, x]) (fun U s₅ => codeAny C.M A (.compLoop (.ListComp elt [⟨target, iter, ifs, 0⟩] scope pos) 0 (.ref it) (.ref acc) env) (fun r s' => match r with | .ok _ => ∃ ρ' σ', G C σ' (FR env ρ' η) s' ∧ Q ρ' σ' | .error _ => False) s₅) nF s₄) nF s₃
      else codeAny C.M A (.compLoop (.ListComp elt [⟨target, iter, ifs, 0⟩] scope pos) 0 (.ref it) (.ref acc) env) (fun r s' => match r with | .ok _ => ∃ ρ' σ', G C σ' (FR env ρ' η) s' ∧ Q ρ' σ' | .error _ => False) s₃) nF s₂) nF s := by
 refine wpK2 (h ok _ s vr rfl g) (fun U s₂ ρ₁ σ₁ g1 h1 => ?_)
 match ifs, h1 with
 | [], h1 =>
  refine wpAny_tests_nil ?_
  rw [if_pos rfl]
  exact cbody_run ok off hn g1 h1
 | [c], h1 =>
  refine wpAny_tests_one (wpK (h1 ok _ s₂ g1) (fun b s₃ σ₂ g3 h3 => ?_))
  cases b with
  | false => exact h3 ok η it _ off hn g3
  | true => exact cbody_run ok off hn g3 h3
theorem CMPL_list {elt target iter : Expr} {ifs : List Expr} {scope : Scope} {pos : Pos} {acc a : Addr} {xs : List MV} {i : Nat} {Q : Loc → Sto → Prop} (b : A.handled = none) (e : σ a = some (.list xs))
  (h1 : ∀ v, xs[i]? = some v → CTURN C A env elt target iter ifs scope pos acc (.list a (i + 1)) v ρ σ Q) (h2 : xs[i]? = none → Q ρ σ) : CMPL C A env elt target iter ifs scope pos acc (.list a i) ρ σ Q := fun ok η it s off hn g => by
 refine xe22 (list_open g e) fun its n ho hm => ?_
 have hL : s.heap.IsList a its := ⟨_, ho, rfl, n, rfl⟩
 have hi : s.heap.IsListIter it a i := it_at off g
 refine comp_step ?_
 cases q : xs[i]? with
 | none =>
  have q' : its[i]? = none := by
   have := List.getElem?_eq_none_iff.mp q
   rw [Array.getElem?_eq_none_iff, list_size hm]; exact this
  refine wpAny_pyNext_list_end b hi hL q' fun h' he => ?_
  have g' := g
  rw [FR_set off] at g'
  have hsz : C.h₀.objs.size ≤ h'.objs.size := by
   have e0 := g.right (FR_loc env ρ _)
   refine xe11 (g.at e0) fun d r => ?_
   refine xe11 r.some fun ob e' => ?_
   exact Nat.le_trans (g.st.ge e0) (Nat.le_of_lt (Heap.lt_size (he _ _ (Ne.symm off.1) e')))
  exact ⟨ρ, σ, g'.drop_ext (by rw [FR_off off]; exact hn) he hsz, h2 q⟩
 | some v =>
  refine xe12 (list_get hm q) fun y hy eq2 => ?_; obtain rfl := eq2
  refine wpAny_pyNext_list_item hi hL hy fun h' hi' hs => ?_
  have g' := it_turn (tk := s.toks) (k' := .list a (i + 1)) off g hs hi'
  refine xe13 hi' fun o ho' hc U => ?_
  exact go_any (s := { s with heap := h' }) ho' hc (by decide) (cturn_run ok off hn g' (h1 _ q))
theorem CMPL_range {elt target iter : Expr} {ifs : List Expr} {scope : Scope} {pos : Pos} {acc : Addr} {x : Int} {n : Nat} {Q : Loc → Sto → Prop} (b : A.handled = none)
  (h1 : ∀ m, n = m + 1 → CTURN C A env elt target iter ifs scope pos acc (.range (x + 1) m 1) (.int x) ρ σ Q) (h2 : n = 0 → Q ρ σ) : CMPL C A env elt target iter ifs scope pos acc (.range x n 1) ρ σ Q := fun ok η it s off hn g => by
 have hit : IsRangeIter s.heap it x n 1 := it_at off g
 refine comp_step ?_
 cases n with
 | zero =>
  refine wpAny_pyNext_range_end b hit (by lia) fun h' he => ?_
  have g' := g
  rw [FR_set off] at g'
  have hsz : C.h₀.objs.size ≤ h'.objs.size := by
   have e0 := g.right (FR_loc env ρ _)
   refine xe11 (g.at e0) fun d r => ?_
   refine xe11 r.some fun ob e' => ?_
   exact Nat.le_trans (g.st.ge e0) (Nat.le_of_lt (Heap.lt_size (he _ _ (Ne.symm off.1) e')))
  exact ⟨ρ, σ, g'.drop_ext (by rw [FR_off off]; exact hn) he hsz, h2 rfl⟩
 | succ m =>
  refine wpAny_pyNext_range_item hit (by lia) fun h' hi' hs => ?_
  have : ((m + 1 : Nat) : Int) - 1 = (m : Int) := by push_cast; lia
  rw [this] at hi'
  have g' := it_turn (tk := s.toks + 1) (k' := .range (x + 1) m 1) off g hs hi'
  exact go_any (s := { s with heap := h', toks := s.toks + 1 }) hi' rfl (by decide) (cturn_run (vr := .int x s.toks) ok off hn g' (h1 m rfl))
end
end
section
noncomputable def compOk (scope : Scope) (env : Env) (cl : List (Str × Addr)) : Bool :=
 (match scope.kind with | .function => true | _ => false) && scope.names.all (fun y => y.2 != .cell && (y.2 != .local || scope.names.lookup y.1 == some .local)) &&
 decide (cl.map (·.1)).Nodup && cl.all fun p => (relabel scope env).names.lookup p.1 != some .local
noncomputable def IK.selfOk : IK → Bool
 | .list .. => true
 | .range .. => true
 | _ => false
theorem IK.self {M : Program} {w : World} {A : Around} {E : Value → Shared → Prop} {s : Shared} {it : Addr} {k : IK} {Q : Value → Shared → Prop} (x : k.at_ s.heap it) (e : k.selfOk = true) (h : Q (.ref it) s) : wpAny (model M w) A (pyIter (.ref it)) Q E s := by
 cases k <;> try exact ft e
 ·exact wpAny_pyIter_listiter x h
 ·exact wpAny_pyIter_rangeiter x h
section
variable {C : Cx} {A : Around} {env : Env} {ρ : Loc} {σ : Sto}
noncomputable def cfree (cl : List (Str × Addr)) (ρ : Loc) : Loc := cl.filterMap fun p => (ρ.lookup p.1).map fun v => (p.1, v)
theorem cfree_lookup {cl : List (Str × Addr)} (hn : (cl.map (·.1)).Nodup) : ∀ p ∈ cl, (cfree cl ρ).lookup p.1 = ρ.lookup p.1 := by
 induction cl with
 | nil => exact List.forall_mem_nil _
 | cons q r ih =>
  rw [List.map_cons, List.nodup_cons] at hn
  intro p hp
  have out : ∀ x, x ∉ r.map (·.1) → (cfree r ρ).lookup x = none := fun x hx => by
   rw [List.lookup_eq_none_iff]
   intro z hz
   refine xe12 (List.mem_filterMap.mp hz) fun y hy ey => ?_
   refine xe12 (Option.map_eq_some_iff.mp ey) fun v U eq2 => ?_; obtain rfl := eq2
   have : x ≠ y.1 := fun e => hx (e ▸ List.mem_map_of_mem hy)
   simpa using this
  have unf : cfree (q :: r) ρ = (match ρ.lookup q.1 with | some v => [(q.1, v)] | none => []) ++ cfree r ρ := by
   unfold cfree
   rw [List.filterMap_cons]
   cases ρ.lookup q.1 <;> rfl
  rw [unf]
  rcases List.mem_cons.mp hp with rfl | hp
  ·cases e : ρ.lookup p.1 with
   | none => exact out _ hn.1
   | some v => simp
  ·have hne : p.1 ≠ q.1 := fun e => hn.1 (e ▸ List.mem_map_of_mem hp)
   have hb : (p.1 == q.1) = false := beq_eq_false_iff_ne.mpr hne
   cases e : ρ.lookup q.1 with
   | none => exact ih hn.2 p hp
   | some v =>
    show List.lookup p.1 ((q.1, v) :: cfree r ρ) = _
    rw [List.lookup_cons, hb]; exact ih hn.2 p hp
theorem cfree_none {cl : List (Str × Addr)} {x : Str} (h : ∀ p ∈ cl, p.1 ≠ x) : (cfree cl ρ).lookup x = none := by
 rw [List.lookup_eq_none_iff]
 intro z hz
 refine xe12 (List.mem_filterMap.mp hz) fun y hy ey => ?_
 refine xe12 (Option.map_eq_some_iff.mp ey) fun v U eq2 => ?_; obtain rfl := eq2
 simpa using Ne.symm (h y hy)
theorem FR_comp {cenv : Env} {ρ' : Loc} {η : Sto} (h : ∀ p ∈ cenv.cells, η p.2 = some (.cell (ρ'.lookup p.1))) : FR cenv ρ' η = η.set cenv.locals (.ns fun x => if cenv.kindOf x = some .local then ρ'.lookup x else none) := by
 funext a
 by_cases ha : a = cenv.locals
 ·subst ha; rw [FR_loc, Sto.set_self]
 ·rw [Sto.set_ne _ _ ha]
  unfold FR
  rw [if_neg ha]
  cases q : cenv.cells.find? (fun p => p.2 == a) with
  | none => rfl
  | some p =>
   have hp := List.mem_of_find?_eq_some q
   have hpa : p.2 = a := by simpa using List.find?_some q
   rw [← hpa, h p hp]
theorem nodup_sub {cells cl : List (Str × Addr)} (hc : (cells.map (·.2)).Nodup) (hm : ∀ p ∈ cl, p ∈ cells) (hn : (cl.map (·.1)).Nodup) : (cl.map (·.2)).Nodup := by
 induction cl with
 | nil => exact List.nodup_nil
 | cons q r ih =>
  rw [List.map_cons, List.nodup_cons] at hn ⊢
  refine ⟨fun hq => ?_, ih (fun p hp => hm p (List.mem_cons_of_mem _ hp)) hn.2⟩
  refine xe12 (List.mem_map.mp hq) fun p hp e => ?_
  have h1 := find_addr hc (hm p (List.mem_cons_of_mem _ hp))
  have h2 := find_addr hc (hm q List.mem_cons_self)
  rw [e] at h1
  have := h1.symm.trans h2
  obtain rfl := si this
  exact hn.1 (List.mem_map_of_mem hp)
theorem comp_env {scope : Scope} {cl : List (Str × Addr)} {L : Addr} (ok : EnvOk env) (co : compOk scope env cl = true) (hcl : ∀ p ∈ cl, env.cells.lookup p.1 = some p.2) (hL : L ∉ cl.map (·.2)) : EnvOk (compEnvC scope cl L env) := by
 simp only [compOk, Bool.and_eq_true, decide_eq_true_eq] at co
 obtain ⟨⟨⟨hk, _⟩, hn⟩, hl⟩ := co
 have hk' : scope.kind = .function := by cases q : scope.kind <;> rw [q] at hk <;> first | rfl | exact ft hk
 refine ⟨hk', ok.glob, ok.blt, nodup_sub ok.nd (fun p hp => mem_of_lookup (hcl p hp)) hn, hn, hL, fun p hp e => ?_⟩
 have := List.all_eq_true.mp hl p hp
 have e' : (relabel scope env).names.lookup p.1 = some .local := e
 rw [e'] at this; exact ft this
theorem comp_run {elt target iter : Expr} {ifs : List Expr} {scope : Scope} {pos p0 : Pos} {cl : List (Str × Addr)} {use : Option (Value → Sem Unit)} {η : Sto} {s : Shared} {Qv : Value → Shared → Prop}
  (ok : EnvOk env) (co : compOk scope env cl = true) (hclos : closureFor scope env = pure cl) (hcl : ∀ p ∈ cl, env.cells.lookup p.1 = some p.2) (hs : notSet iter) (g : G C σ (FR env ρ η) s)
  {R : Addr → Sto → Prop}
  (fin : ∀ acc L s' σ' ρ', (∀ p ∈ cl, ρ'.lookup p.1 = ρ.lookup p.1) → G C σ' (FR (compEnvC scope cl L env) ρ' (FR env ρ η)) s' → FR env ρ η L = none → L ∉ cl.map (·.2) → R acc σ' → compPost C.M A nF use Qv (.ref acc) L (.ok .next) s')
  (h : EV C A env iter ρ σ fun x σ₁ => ITR C A x σ₁ fun k σ₂ => k.selfOk = true ∧ ∀ acc L, σ₂ acc = none → CMPL C A (compEnvC scope cl L env) elt target iter ifs scope pos acc k (cfree cl ρ) (σ₂.set acc (.list [])) (fun ρ' σ' => (∀ p ∈ cl, ρ'.lookup p.1 = ρ.lookup p.1) ∧ R acc σ')) :
  wpAny C.M A (comprehension (.ListComp elt [⟨target, iter, ifs, 0⟩] scope pos) scope env p0 (newList []) false (eval iter env) use) Qv nF s := by
 have co' := co
 simp only [compOk, Bool.and_eq_true, decide_eq_true_eq] at co'
 obtain ⟨⟨⟨hk, hnm⟩, hn⟩, hl⟩ := co'
 have hk' : scope.kind = .function := by cases q : scope.kind <;> rw [q] at hk <;> first | rfl | exact ft hk
 have hcell : ∀ x ∈ scope.names, x.2 ≠ .cell := fun x hx e => by
  have := List.all_eq_true.mp hnm x hx
  rw [e] at this
  simp at this
 have hnames : ∀ x ∈ scope.names, x.2 = .local → scope.names.lookup x.1 = some .local := fun x hx e => by
  have := List.all_eq_true.mp hnm x hx
  rw [e] at this
  simpa using this
 refine wpAny_comprehension_free rfl (hs env) hclos hk' hnames (wpK (h ok η s g) (fun x s₁ σ₁ g1 h1 => wpAny_mono (h1 x _ s₁ rfl g1) (fun v s₂ hh => ?_) fun U U x => x))
 refine xe36 hh fun it k σ₂ ev n1 n2 g2 hself h2 => ?_
 subst ev
 refine wpAny_newList ?_ (le_line (by simp))
 have g3 := new_list (vs := []) g2
 refine wpAny_newFunctionEnv hcell (binds := []) (List.forall_mem_nil _) (fun h' hns hsb => ?_) hk'
 have hD := g2.fresh (Nat.le_refl s₂.heap.objs.size)
 let s3 : Shared := { s₂ with heap := s₂.heap.push { cls := .type "list", data := .seq ([] : List Value).toArray } }
 let L : Addr := s3.heap.objs.size
 have hLf := g3.fresh (a := L) (Nat.le_refl _)
 have keep : ∀ b ob, s3.heap.get? b = some ob → h'.get? b = some ob := fun b ob e => (hsb.2 b (Nat.ne_of_lt (Heap.lt_size e))).trans (Heap.get?_push_of_some _ e)
 have hFL : FR env ρ η L = none := by
  have := hLf.2
  by_cases hi : L = it
  ·rw [hi]; exact n1
  ·rwa [Sto.set_ne _ _ hi] at this
 have hcell2 : ∀ p ∈ cl, FR env ρ η p.2 = some (.cell (ρ.lookup p.1)) := fun p hp => FR_cell ok ρ η (hcl p hp)
 have hLcl : L ∉ cl.map (·.2) := fun hm => by
  refine xe12 (List.mem_map.mp hm) fun p hp e => ?_
  have := hcell2 p hp
  rw [e, hFL] at this
  exact nn this
 have okc : EnvOk (compEnvC scope cl L env) := comp_env ok co hcl hLcl
 have hit : ∀ p ∈ cl, p.2 ≠ it := fun p hp e => by
  have := hcell2 p hp
  rw [e, n1] at this
  exact nn this
 have e4 : FR (compEnvC scope cl L env) (cfree cl ρ) ((FR env ρ η).set it (.it k)) = ((FR env ρ η).set it (.it k)).set L (.ns fun x => if (compEnvC scope cl L env).kindOf x = some .local then (cfree cl ρ).lookup x else none) :=
  FR_comp (cenv := compEnvC scope cl L env) fun p hp => by
   rw [Sto.set_ne _ _ (hit p hp), hcell2 p hp, cfree_lookup hn p hp]
 have g4 : G C (σ₂.set s₂.heap.objs.size (.list [])) (FR (compEnvC scope cl L env) (cfree cl ρ) ((FR env ρ η).set it (.it k))) { s3 with heap := h', toks := s3.toks + 0 } := by
  rw [e4]
  refine g3.setR hLf.1 (s' := { s3 with heap := h', toks := s3.toks + 0 }) (g3.st.new keep (by show s3.heap.objs.size ≤ h'.objs.size; rw [hsb.1]; exact Nat.le_trans (Nat.le_succ _) (Nat.le_of_eq (Heap.size_push ..).symm)) (Nat.le_refl _) rfl fun d => ?_) rfl rfl
  refine show ∃ mA, _ from ⟨_, hns, fun y => ?_⟩
  dsimp only
  split
  ·rename_i hy
   rw [cfree_none fun p hp e => ?_]
   ·rfl
   ·have := List.all_eq_true.mp hl p hp
    have hy' : (relabel scope env).names.lookup y = some .local := hy
    rw [e, hy'] at this
    exact ft this
  ·rfl
 have hitL : it ≠ L := fun e' => by
  have := hLf.2
  rw [← e', Sto.set_self] at this
  exact sn this
 have hoff : offF (compEnvC scope cl L env) it := by
  refine ⟨hitL, fun hm => ?_⟩
  refine xe12 (List.mem_map.mp hm) fun p hp e => ?_
  exact hit p hp e
 have loop := h2 s₂.heap.objs.size L hD.1 okc (FR env ρ η) it _ hoff n1 g4
 have loop' := codeAny_mono loop (R' := compPost C.M A nF use Qv (.ref s₂.heap.objs.size) L) fun r s' q => by
  cases r with
  | error e => exact q.elim
  | ok f =>
   refine xe23 q fun ρ' σ' g' ha hr => ?_
   have q := fin _ L s' σ' ρ' ha g' hFL hLcl hr
   cases use <;> exact q
 refine codeAny_compStart_list loop' (IK.self (it_at hoff g4) hself loop')
theorem comp_end {scope : Scope} {cl : List (Str × Addr)} {L : Addr} {η : Sto} {s' : Shared} {σ' : Sto} {ρ' : Loc} (ok : EnvOk env) (hcl : ∀ p ∈ cl, env.cells.lookup p.1 = some p.2) (ha : ∀ p ∈ cl, ρ'.lookup p.1 = ρ.lookup p.1)
  (g : G C σ' (FR (compEnvC scope cl L env) ρ' (FR env ρ η)) s') (hL : FR env ρ η L = none) : (∃ m, s'.heap.Ns L m) ∧ ∀ h', Heap.SameBut L s'.heap h' → G C σ' (FR env ρ η) { s' with heap := h' } := by
 have e : FR (compEnvC scope cl L env) ρ' (FR env ρ η) = (FR env ρ η).set L _ := FR_comp (cenv := compEnvC scope cl L env) fun p hp => by
  rw [FR_cell ok ρ η (hcl p hp), ha p hp]
 refine xe22 (g.at (g.right (FR_loc (compEnvC scope cl L env) ρ' (FR env ρ η)))) fun d mA hn U => ?_
 rw [e] at g
 exact ⟨⟨mA, hn⟩, fun h' hs => g.drop_ext hL hs.extBut (hs.1 ▸ g.st.size)⟩
theorem EV_comp {elt target iter : Expr} {ifs : List Expr} {scope : Scope} {pos : Pos} {cl : List (Str × Addr)} {Q : MV → Sto → Prop}
  (hclos : closureFor scope env = pure cl) (hcl : cl.map (fun p => env.cells.lookup p.1) = cl.map fun p => some p.2) (co : compOk scope env cl = true)
  (h : EV C A env iter ρ σ fun x σ₁ => ITR C A x σ₁ fun k σ₂ => k.selfOk = true ∧ ∀ acc L, σ₂ acc = none → CMPL C A (compEnvC scope cl L env) elt target iter ifs scope pos acc k (cfree cl ρ) (σ₂.set acc (.list [])) (fun ρ' σ' => (∀ p ∈ cl, ρ'.lookup p.1 = ρ.lookup p.1) ∧ Q (.ref acc) σ')) (hs : notSet iter) :
  EV C A env (.ListComp elt [⟨target, iter, ifs, 0⟩] scope pos) ρ σ Q := fun ok η s g => by
 have hcl' : ∀ p ∈ cl, env.cells.lookup p.1 = some p.2 := List.map_inj_left.mp hcl
 rw [eval_ListComp]
 refine comp_run (R := fun acc σ' => Q (.ref acc) σ') ok co hclos hcl' hs g (fun acc L s' σ' ρ' ha g' hL hLc hr => ?_) h
 obtain ⟨⟨m, hm⟩, hx⟩ := comp_end ok hcl' ha g' hL
 exact ⟨m, hm, fun h' hs' => ⟨σ', hx h' hs', hr⟩⟩
theorem EX1_asg_comp {elt target iter : Expr} {ifs : List Expr} {scope : Scope} {pos p1 spos : Pos} {cl : List (Str × Addr)} {x : Str} {Q : MF → Loc → Sto → Prop}
  (hclos : closureFor scope env = pure cl) (hcl : cl.map (fun p => env.cells.lookup p.1) = cl.map fun p => some p.2) (co : compOk scope env cl = true) (hx : env.kindOf x = some .local)
  (h : EV C A env iter ρ σ fun x₁ σ₁ => ITR C A x₁ σ₁ fun k σ₂ => k.selfOk = true ∧ ∀ acc L, σ₂ acc = none → CMPL C A (compEnvC scope cl L env) elt target iter ifs scope pos acc k (cfree cl ρ) (σ₂.set acc (.list [])) (fun ρ' σ' => (∀ p ∈ cl, ρ'.lookup p.1 = ρ.lookup p.1) ∧ Q .next (setL ρ x (.ref acc)) σ')) (hs : notSet iter)
  (hw : swapsWith (.ListComp elt [⟨target, iter, ifs, 0⟩] scope pos) (some (.Name x p1)) spos.line env = pure true) :
  EX1 C A env (.Assign [.Name x p1] (.ListComp elt [⟨target, iter, ifs, 0⟩] scope pos) spos) ρ σ Q := fun ok η s g => by
 have hcl' : ∀ p ∈ cl, env.cells.lookup p.1 = some p.2 := List.map_inj_left.mp hcl
 rw [exec_Assign_Name_used _ _ _ _ hw]
 refine wpAny_bind (wpAny_standAt (wpAny_bind ?_))
 show wpAny _ A (do let _ ← comprehension (.ListComp elt [⟨target, iter, ifs, 0⟩] scope pos) scope env _ (newList []) false (eval iter env) (some (assign (.Name x p1) env))) _ _ s
 refine wpAny_bind (wpAny_mono (comp_run (use := some (assign (.Name x p1) env)) (Qv := fun U s' => ∃ ρ' σ', G C σ' (FR env ρ' η) s' ∧ Q .next ρ' σ') (R := fun acc σ' => Q .next (setL ρ x (.ref acc)) σ') ok co hclos hcl' hs g (fun acc L s' σ' ρ' ha g' hL hLc hr => ?_) h)
  (fun U s' hq => wpAny_pure (wpAny_pure hq)) fun U U e => e)
 have e : FR (compEnvC scope cl L env) ρ' (FR env ρ η) = (FR env ρ η).set L _ := FR_comp (cenv := compEnvC scope cl L env) fun p hp => by
  rw [FR_cell ok ρ η (hcl' p hp), ha p hp]
 have off := off_of hL
 rw [e, ← FR_set off] at g'
 show wpAny _ A (assign (.Name x p1) env (.ref acc)) _ _ _
 refine wpK2 (P := fun U ρ₁ σ₁ => ρ₁ = setL ρ x (.ref acc) ∧ σ₁ = σ') (assign_Name (store_loc (Q := fun ρ₁ σ₁ => ρ₁ = setL ρ x (.ref acc) ∧ σ₁ = σ') ok g' hx ⟨rfl, rfl⟩)) fun U s'' ρ₁ σ₁ g1 hh => ?_
 refine xe02 hh fun e1 e2 => ?_
 subst e1 e2
 have g2 := g1
 rw [FR_set off] at g2
 refine xe22 (g2.at (g2.right (Sto.set_self ..))) fun d mA hn U => ?_
 exact ⟨mA, hn, fun h' hs' => ⟨_, _, g2.drop_ext (by rw [FR_off off]; exact FR_none hL) hs'.extBut (hs'.1 ▸ g2.st.size), hr⟩⟩
end
end
section
theorem keep_new {σ : Sto} {a d : Addr} {o x : MO} (hd : σ d = none) (e : σ a = some o) : (σ.set d x) a = some o := by
 rw [Sto.set_ne]
 ·exact e
 ·rintro rfl; exact nn (hd.symm.trans e)
theorem keep_ne {σ : Sto} {a d : Addr} {o x : MO} (hd : a ≠ d) (e : σ a = some o) : (σ.set d x) a = some o := by rw [Sto.set_ne _ _ hd]; exact e
theorem set_swap {σ : Sto} {a b : Addr} {x y : MO} (h : a ≠ b) : (σ.set a x).set b y = (σ.set b y).set a x := by
 funext c
 by_cases h1 : c = b
 ·subst h1; rw [Sto.set_self, Sto.set_ne _ _ (Ne.symm h), Sto.set_self]
 ·by_cases h2 : c = a
  ·subst h2; rw [Sto.set_ne _ _ h1, Sto.set_self, Sto.set_self]
  ·rw [Sto.set_ne _ _ h1, Sto.set_ne _ _ h2, Sto.set_ne _ _ h2, Sto.set_ne _ _ h1]
theorem set_set {σ : Sto} {a : Addr} {x y : MO} : (σ.set a x).set a y = σ.set a y := by
 funext b; by_cases hb : b = a
 ·subst hb; simp [Sto.set_self]
 ·simp [Sto.set_ne _ _ hb]
theorem sub_new {σ : Sto} {d : Addr} {x : MO} (hd : σ d = none) : ∀ a o, σ a = some o → (σ.set d x) a = some o := fun U U e => keep_new hd e
noncomputable def two (σ : Sto) (wa fo : Addr) (S X : List MV) : Sto := (σ.set wa (.list S)).set fo (.list X)
section
variable {σ : Sto} {wa fo a : Addr} {S S' X X' : List MV} {o : MO}
theorem two_fo : two σ wa fo S X fo = some (.list X) := Sto.set_self ..
theorem two_wa (h : wa ≠ fo) : two σ wa fo S X wa = some (.list S) := by unfold two; rw [Sto.set_ne _ _ h, Sto.set_self]
theorem two_set_fo : (two σ wa fo S X).set fo (.list X') = two σ wa fo S X' := by
 funext b; unfold two; by_cases h : b = fo
 ·subst h; simp [Sto.set_self]
 ·simp [Sto.set_ne _ _ h]
theorem two_set_wa (h : wa ≠ fo) : (two σ wa fo S X).set wa (.list S') = two σ wa fo S' X := by
 funext b; unfold two; by_cases hb : b = wa
 ·subst hb; rw [Sto.set_self, Sto.set_ne _ _ h, Sto.set_self]
 ·rw [Sto.set_ne _ _ hb]
  by_cases hc : b = fo
  ·subst hc; rw [Sto.set_self, Sto.set_self]
  ·rw [Sto.set_ne _ _ hc, Sto.set_ne _ _ hc, Sto.set_ne _ _ hb, Sto.set_ne _ _ hb]
theorem two_old (hw : σ wa = none) (hf : σ fo = none) (e : σ a = some o) : two σ wa fo S X a = some o := by
 have h1 : a ≠ wa := by rintro rfl; exact nn (hw.symm.trans e)
 have h2 : a ≠ fo := by rintro rfl; exact nn (hf.symm.trans e)
 unfold two; rw [Sto.set_ne _ _ h2, Sto.set_ne _ _ h1]; exact e
end
noncomputable def On (Λ σ : Sto) : Prop := ∀ a o, Λ a = some o → σ a = some o ∨ ∃ D fs v, o = .inst D fs ∧ σ a = some (.inst D (setL fs "scope" v))
theorem On.list {Λ σ : Sto} (h : On Λ σ) {a : Addr} {xs : List MV} (e : Λ a = some (.list xs)) : σ a = some (.list xs) := by
 rcases h a _ e with q | ⟨_, _, _, q, _⟩
 ·exact q
 ·cases q
theorem On.tuple {Λ σ : Sto} (h : On Λ σ) {a : Addr} {xs : List MV} (e : Λ a = some (.tuple xs)) : σ a = some (.tuple xs) := by
 rcases h a _ e with q | ⟨_, _, _, q, _⟩
 ·exact q
 ·cases q
theorem On.inst {Λ σ : Sto} (h : On Λ σ) {a D : Addr} {fs : Loc} (e : Λ a = some (.inst D fs)) : ∃ fs', σ a = some (.inst D fs') ∧ ∀ x : Str, x ≠ "scope" → fs'.lookup x = fs.lookup x := by
 rcases h a _ e with q | ⟨_, _, v, q, q'⟩
 ·exact ⟨_, q, fun U U => rfl⟩
 ·cases q; exact ⟨_, q', fun x hx => by rw [lookup_setL, if_neg hx]⟩
theorem On.new {Λ σ : Sto} (h : On Λ σ) {d : Addr} {x : MO} (hd : σ d = none) : On Λ (σ.set d x) := fun a o e => by
 rcases h a o e with q | ⟨D, fs, v, q, q'⟩
 ·exact .inl (keep_new hd q)
 ·exact .inr ⟨D, fs, v, q, keep_new hd q'⟩
theorem On.two {Λ σ : Sto} (h : On Λ σ) {wa fo : Addr} (hw : σ wa = none) (hf : σ fo = none) {S X : List MV} : On Λ (two σ wa fo S X) := fun a o e => by
 rcases h a o e with q | ⟨D, fs, v, q, q'⟩
 ·exact .inl (two_old hw hf q)
 ·exact .inr ⟨D, fs, v, q, two_old hw hf q'⟩
theorem if_p {b : Bool} {p q : Prop} (hb : b = true) (h : p) : if b = true then p else q := by rw [if_pos hb]; exact h
theorem len_gt (S : List MV) (v : MV) : decide ((0 : Int) < ((S ++ [v]).length : Int)) = true := decide_eq_true (by rw [List.length_append]; exact Int.natCast_pos.mpr (Nat.succ_pos _))
inductive FK (Λ : Sto) : MV → List MV → List MV → Prop where
 | node {a : Addr} {fs : Loc} (e : Λ a = some (.inst 31 fs)) : FK Λ (.ref a) [] [.ref a]
 | list {a : Addr} {xs : List MV} (e : Λ a = some (.list xs)) : FK Λ (.ref a) xs []
 | tuple {a : Addr} {xs : List MV} (e : Λ a = some (.tuple xs)) : FK Λ (.ref a) xs []
 | oth {v : MV} (e : v = .none ∨ (∃ b, v = .bool b) ∨ ∃ x, v = .str x) : FK Λ v [] []
theorem FK.le {Λ : Sto} {v : MV} {I O : List MV} (h : FK Λ v I O) : O.length ≤ 1 := by cases h <;> exact Nb rfl
inductive Flats (Λ : Sto) : List MV → List MV → Nat → Prop where
 | nil : Flats Λ [] [] 0
 | at_ {v : MV} {I O ys L M : List MV} {n m : Nat} (e : FK Λ v I O) (q : Flats Λ I L n) (r : Flats Λ ys M m) : Flats Λ (v :: ys) (O ++ (L ++ M)) (n + m + 1)
noncomputable def Flat (Λ : Sto) (v : MV) (L : List MV) (n : Nat) : Prop := Flats Λ [v] L n
theorem Flats.short {Λ : Sto} {v L : List MV} {n : Nat} (h : Flats Λ v L n) : v.length ≤ n ∧ L.length ≤ n := by
 induction h with
 | nil => exact ⟨Nat.le_refl _, Nat.le_refl _⟩
 | at_ e _ _ i1 i2 =>
  refine ⟨Nat.succ_le_succ (Nat.le_trans i2.1 (Nat.le_add_left ..)), ?_⟩
  rw [List.length_append, List.length_append, Nat.add_comm]
  exact Nat.add_le_add (Nat.add_le_add i1.2 i2.2) e.le
theorem Flat.short {Λ : Sto} {v : MV} {L : List MV} {n : Nat} (h : Flat Λ v L n) : L.length ≤ n := (Flats.short h).2
theorem len_sum {s i y n m x o l B : Nat} (h : s + x + (n + m + 1) ≤ B) (hi : i ≤ n) (hy : y ≤ m) (ho : o ≤ 1) (hl : l ≤ n) : s + y + i + x + 1 ≤ B ∧ s + y + (x + o) + n ≤ B ∧ s + (x + o + l) + m ≤ B := by lia
theorem flats_loop {Λ : Sto} {P : Loc → Prop} {R : Loc → List MV → List MV → Prop} {B : Nat}
  (step : ∀ ρ S X v I O, P ρ → S.length + I.length + X.length + 1 ≤ B → FK Λ v I O → (∀ ρ', P ρ' → R ρ' (S ++ I.reverse) (X ++ O)) → R ρ (S ++ [v]) X)
  {xs L : List MV} {n : Nat} (f : Flats Λ xs L n) : ∀ {ρ : Loc} {S X : List MV}, P ρ → S.length + X.length + n ≤ B → (∀ ρ', P ρ' → R ρ' S (X ++ L)) → R ρ (S ++ xs.reverse) X := by
 induction f with
 | nil => intro ρ S X p h1 k; rw [List.reverse_nil, List.append_nil]; have := k ρ p; rwa [List.append_nil] at this
 | @at_ v I O ys L M n m e q r iq ih =>
  intro ρ S X p h1 k
  rw [List.reverse_cons, ← List.append_assoc]
  refine xe03 (len_sum h1 q.short.1 r.short.1 e.le q.short.2) fun b1 b3 b5 => ?_
  rw [← List.length_reverse (as := ys), ← List.length_append] at b1 b3
  rw [← List.length_append] at b3 b5
  rw [← List.length_append] at b5
  refine step _ _ _ _ _ _ p b1 e fun ρ' p' => iq p' b3 fun ρ'' p'' => ih p'' b5 fun ρ3 p3 => ?_
  rw [List.append_assoc, List.append_assoc]; exact k ρ3 p3
theorem down_loop {P : Loc → Prop} {R : Nat → Loc → List MV → Prop} {xs : List MV} {B : Nat} (step : ∀ j v ρ S, P ρ → S.length + 1 ≤ B → xs[j]? = some v → (∀ ρ', P ρ' → R j ρ' (S ++ [v])) → R (j + 1) ρ S) :
  ∀ (i : Nat) (ρ : Loc) (S : List MV), i ≤ xs.length → S.length + i ≤ B → P ρ → (∀ ρ', P ρ' → R 0 ρ' (S ++ (xs.take i).reverse)) → R i ρ S
 | 0, ρ, S, _, _, p, k => by have := k ρ p; simpa using this
 | j + 1, ρ, S, hi, hb, p, k => by
  have q : xs[j]? = some xs[j] := List.getElem?_eq_getElem (by lia)
  refine step j _ ρ S p (by lia) q fun ρ' p' => down_loop step j ρ' _ (by lia) (by rw [List.length_append, List.length_singleton]; lia) p' fun ρ'' p'' => ?_
  have e : (xs.take (j + 1)).reverse = [xs[j]] ++ (xs.take j).reverse := by rw [List.take_add_one, q, Option.toList_some, List.reverse_append]; rfl
  rw [List.append_assoc, ← e]
  exact k ρ'' p''
section
variable {K : Frag} {P : Prop}
theorem callee_blt {x : String} (h : P) : callee K (.builtin x) = true ∧ P := ⟨rfl, h⟩
theorem callee_type {x : String} (h : P) : callee K (.type x) = true ∧ P := ⟨rfl, h⟩
theorem EV_gl {C : Cx} {A : Around} {env : Env} {ρ : Loc} {σ : Sto} {x : Str} {pos : Pos} {a : Addr} {Q : MV → Sto → Prop} (e : nsIn C.K mainGlobals x = some (some (.ref a))) (hk : env.kindOf x = some .globalImplicit) (h : Q (.ref a) σ) (hd : (x == ("__debug__" : Str)) = false) :
  EV C A env (.Name x pos) ρ σ Q := EV_glob e hk h hd
theorem EV_bl {C : Cx} {A : Around} {env : Env} {ρ : Loc} {σ : Sto} {x : Str} {pos : Pos} {v : Value} {m : MV} {Q : MV → Sto → Prop} (e : nsIn C.K mainGlobals x = some none) (hv : bootBuiltins x = some v) (hn : x ≠ "__name__") (hk : env.kindOf x = some .globalImplicit) (hm : MV.of v = m) (h : Q m σ) (hd : (x == ("__debug__" : Str)) = false) :
  EV C A env (.Name x pos) ρ σ Q := EV_blt e hv hn hk (hm ▸ h) hd
theorem two_sub {σ : Sto} {wa fo : Addr} {S X : List MV} (hw : σ wa = none) (h : wa ≠ fo) : ∀ a o, (σ.set fo (.list X)) a = some o → two σ wa fo S X a = some o := fun a o e => by
 unfold two
 by_cases h2 : a = fo
 ·subst h2; rw [Sto.set_self] at e ⊢; exact e
 ·rw [Sto.set_ne _ _ h2] at e ⊢
  rw [Sto.set_ne]
  ·exact e
  ·rintro rfl; exact nn (hw.symm.trans e)
noncomputable def negX (Q : MV → Sto → Prop) : MV → Sto → Prop
 | .int i, σ => Q (.int (-i)) σ
 | _, _ => False
theorem EV_neg {C : Cx} {A : Around} {env : Env} {ρ : Loc} {σ : Sto} {x : Expr} {pos : Pos} {Q : MV → Sto → Prop} (h : EV C A env x ρ σ (negX Q)) : EV C A env (.UnaryOp .USub x pos) ρ σ Q := fun ok η s g =>
 wpAny_UnaryOp (wpK (h ok η s g) (fun v U σ₁ g1 h1 => by
  cases v <;> try exact h1.elim
  exact PyProof.Rows.neg_int ⟨σ₁, g1.tok, h1⟩))
theorem neg_lit {Q : MV → Sto → Prop} {i : Int} {σ : Sto} (h : Q (.int (-i)) σ) : negX Q (.int i) σ := h
theorem EX1_forEn {C : Cx} {A : Around} {env : Env} {ρ : Loc} {σ : Sto} {ts : List Expr} {kk : Nat} {pt pos fp ep : Pos} {le : Expr} {body orelse : List Stmt} {Q : MF → Loc → Sto → Prop}
  (h : EV C A env (.Call (.Name "enumerate" fp) [le] [] ep) ρ σ fun x σ₁ => ∃ d it a σ₂, x = .ref d ∧ σ₁ = (σ₂.set it (.it (.list a 0))).set d (.it (.enum it 0)) ∧ σ₂ d = none ∧ σ₂ it = none ∧ d ≠ it ∧ FORE C A env ts kk pt body orelse a 0 ρ σ₂ Q) :
  EX1 C A env (.For (.Tuple ts kk pt) (.Call (.Name "enumerate" fp) [le] [] ep) body orelse pos) ρ σ Q := EX1_forE h fun U U => rfl
theorem EVO_n {C : Cx} {A : Around} {env : Env} {ρ : Loc} {σ : Sto} {Q : MV → Sto → Prop} (h : Q .none σ) : EVO C A env none ρ σ Q := h
theorem EVO_s {C : Cx} {A : Around} {env : Env} {ρ : Loc} {σ : Sto} {e : Expr} {Q : MV → Sto → Prop} (h : EV C A env e ρ σ Q) : EVO C A env (some e) ρ σ Q := h
theorem TST_call {C : Cx} {A : Around} {env : Env} {ρ : Loc} {σ : Sto} {f : Expr} {as : List Expr} {ks : List Keyword} {pos : Pos} {Q : Bool → Sto → Prop} (h : EV C A env (.Call f as ks pos) ρ σ fun v σ' => TRU C A v σ' Q) : TST C A env (.Call f as ks pos) ρ σ Q := fun ok η s g =>
 wpAny_isTrue_value (wpK (h ok η s g) (fun v U U g1 h1 => h1 v rfl _ _ g1))
theorem TST_name {C : Cx} {A : Around} {env : Env} {ρ : Loc} {σ : Sto} {x : Str} {pos : Pos} {Q : Bool → Sto → Prop} (h : EV C A env (.Name x pos) ρ σ fun v σ' => TRU C A v σ' Q) : TST C A env (.Name x pos) ρ σ Q := fun ok η s g =>
 wpAny_isTrue_value (wpK (h ok η s g) (fun v U U g1 h1 => h1 v rfl _ _ g1))
theorem TST_attr {C : Cx} {A : Around} {env : Env} {ρ : Loc} {σ : Sto} {o : Expr} {x : Str} {pos : Pos} {Q : Bool → Sto → Prop} (h : EV C A env (.Attribute o x pos) ρ σ fun v σ' => TRU C A v σ' Q) : TST C A env (.Attribute o x pos) ρ σ Q := fun ok η s g =>
 wpAny_isTrue_value (wpK (h ok η s g) (fun v U U g1 h1 => h1 v rfl _ _ g1))
theorem two_swap {σ : Sto} {wa fo : Addr} {S X : List MV} (h : wa ≠ fo) : (σ.set fo (.list X)).set wa (.list S) = two σ wa fo S X := by
 funext a; unfold two
 by_cases h1 : a = wa
 ·subst h1; rw [Sto.set_self, Sto.set_ne _ _ h, Sto.set_self]
 ·by_cases h2 : a = fo
  ·subst h2; rw [Sto.set_self, Sto.set_ne _ _ h1, Sto.set_self]
  ·rw [Sto.set_ne _ _ h1, Sto.set_ne _ _ h2, Sto.set_ne _ _ h2, Sto.set_ne _ _ h1]
end
noncomputable abbrev LK (ρ : Loc) (x : Str) (v : MV) : Prop := ρ.lookup x = some v
theorem LK.set {ρ : Loc} {x y : Str} {v w : MV} (h : LK ρ x v) (hn : (x == y) = false) : LK (setL ρ y w) x v := look_ne hn h
end
section
theorem Ut : true = true := rfl
theorem Uf : false = false := rfl
theorem Uj {α : Type} {a : α} : a = a := rfl
theorem UT {α : Type} : ∀ _ : α, true = true := fun U => rfl
theorem UF {α : Type} : ∀ _ : α, false = false := fun U => rfl
theorem Us {α : Type} : ∀ _ : α, (pure false : Sem Bool) = pure false := fun U => rfl
theorem Up {α : Type} : ∀ _ : α, (pure true : Sem Bool) = pure true := fun U => rfl
theorem Uz {α : Type} : ∀ _ : α, (pure none : Sem (Option (List Str))) = pure none := fun U => rfl
theorem Uw {α β γ : Type} : ∀ (_ : α) (_ : β) (w : γ), w = w := fun U U U => rfl
theorem Ux {α β : Type} : ∀ (_ : α) (x : β), (pure x : Sem β) = pure x := fun U U => rfl
theorem Ul {α : Type} : ∀ _ : α, some NameKind.local = some NameKind.local := fun U => rfl
theorem Ug {α : Type} : ∀ _ : α, some NameKind.globalImplicit = some NameKind.globalImplicit := fun U => rfl
theorem Uc {α : Type} : ∀ _ : α, some NameKind.cell = some NameKind.cell := fun U => rfl
theorem Uv {α : Type} {v : Value} : ∀ _ : α, (some (some v) : Option (Option Value)) = some (some v) := fun U => rfl
theorem Un {α : Type} : ∀ _ : α, (some none : Option (Option Value)) = some none := fun U => rfl
theorem Uo {α : Type} : ∀ _ : α, (none : Option Nat) = none := fun U => rfl
theorem U2 {α : Type} : ∀ _ : α, (2 : Nat) = 2 := fun U => rfl
theorem Ui {α β : Type} {f : α → β} : ∀ x, f x = f x := fun U => rfl
theorem Uh {α β γ δ : Type} {f : α → β → γ} {g : α → β → δ} : ∀ x y, f x y = f x y ∧ g x y = g x y := fun U U => ⟨rfl, rfl⟩
noncomputable def plainE : Expr → Bool
 | .Starred .. => false
 | _ => true
theorem star_plain {e : Expr} (h : plainE e = true) (r : List Expr) (env : Env) : starEach (e :: r) env = (false, eval e env) :: starEach r env := by
 cases e with
 | Starred => exact ft h
 | _ => rfl
noncomputable def plainEs (es : List Expr) : Bool := es.all plainE
theorem plainEs_1 {e : Expr} {es : List Expr} (h : plainEs (e :: es) = true) (env : Env) : starEach (e :: es) env = (false, eval e env) :: starEach es env := star_plain (Bool.and_eq_true_iff.mp h).1 es env
theorem plainEs_all {es : List Expr} (h : plainEs es = true) (env : Env) (pos : Pos) : (backTo pos (starEach es env)).any (·.1) = false ∧ (backTo pos (starEach es env)).all (!·.1) = true := by
 induction es with
 | nil => exact ⟨rfl, rfl⟩
 | cons e es ih => rw [plainEs_1 h]; exact ih (Bool.and_eq_true_iff.mp h).2
theorem plainEs_r {e : Expr} {es : List Expr} (h : plainEs (e :: es) = true) (env : Env) {pos : Pos} : (backTo pos (starEach es env)).any (·.1) = false := (plainEs_all (Bool.and_eq_true_iff.mp h).2 env pos).1
theorem plainEs_m {e : Expr} {es : List Expr} (h : plainEs (e :: es) = true) (hl : Nat.blt es.length 29 = true) (env : Env) {pos : Pos} : methodCallForm ((e :: es).length + ([] : List Keyword).length) (backTo pos (starEach (e :: es) env)) (backToKw pos (keywordEach [] env)) = true := by
 unfold methodCallForm
 rw [(plainEs_all h env pos).2]
 exact decide_eq_true (Nat.succ_lt_succ (Nat.le_of_ble_eq_true hl))
structure FX where
 C : Cx
 A : Around
 L : Addr
 M : Addr
 Q : MV → Sto → Prop
noncomputable abbrev EF := FX → Env
noncomputable abbrev KV := FX → Loc → MV → Sto → Prop
noncomputable abbrev KB := FX → Loc → Bool → Sto → Prop
noncomputable abbrev KS := FX → Loc → List MV → Sto → Prop
noncomputable abbrev KN := FX → Loc → Sto → Prop
noncomputable abbrev KW := FX → MF → Loc → Sto → Prop
noncomputable def RE (E : EF) (e : Expr) (κ : KV) (X : FX) (ρ : Loc) (σ : Sto) : Prop := EV X.C X.A (E X) e ρ σ (κ X ρ)
noncomputable def RT (E : EF) (e : Expr) (κ : KB) (X : FX) (ρ : Loc) (σ : Sto) : Prop := TST X.C X.A (E X) e ρ σ (κ X ρ)
noncomputable def RL (E : EF) (op : BoolOp) (es : List Expr) (κ : KB) (X : FX) (ρ : Loc) (σ : Sto) : Prop := ALLT X.C X.A (E X) op es ρ σ (κ X ρ)
noncomputable def RS' (E : EF) (pos : Pos) (es : List Expr) (κ : KS) (X : FX) (ρ : Loc) (σ : Sto) : Prop := EVS X.C X.A (E X) pos es ρ σ (κ X ρ)
noncomputable def RO (E : EF) (e : Option Expr) (κ : KV) (X : FX) (ρ : Loc) (σ : Sto) : Prop := EVO X.C X.A (E X) e ρ σ (κ X ρ)
noncomputable def RA (E : EF) (t : Expr) (v : MV) (κ : KN) (X : FX) (ρ : Loc) (σ : Sto) : Prop := ASG X.C X.A (E X) t v ρ σ (κ X)
noncomputable def RM (E : EF) (ts : List Expr) (vs : List MV) (κ : KN) (X : FX) (ρ : Loc) (σ : Sto) : Prop := ASGS X.C X.A (E X) ts vs ρ σ (κ X)
noncomputable def RX (E : EF) (sts : List Stmt) (κ : KW) (X : FX) (ρ : Loc) (σ : Sto) : Prop := EX X.C X.A (E X) sts ρ σ (κ X)
noncomputable def RW (E : EF) (t : Expr) (b o : List Stmt) (κ : KW) (X : FX) (ρ : Loc) (σ : Sto) : Prop := WH X.C X.A (E X) t b o ρ σ (κ X)
noncomputable def RF (E : EF) (t : Expr) (b o : List Stmt) (κ : KW) (k : IK) (X : FX) (ρ : Loc) (σ : Sto) : Prop := FORL X.C X.A (E X) t b o k ρ σ (κ X)
noncomputable def RN (E : EF) (ts : List Expr) (kk : Nat) (pt : Pos) (b o : List Stmt) (κ : KW) (a : Addr) (i : Nat) (X : FX) (ρ : Loc) (σ : Sto) : Prop := FORE X.C X.A (E X) ts kk pt b o a i ρ σ (κ X)
noncomputable def RC (E : EF) (elt target iter : Expr) (ifs : List Expr) (scope : Scope) (pos : Pos) (κ : KN) (acc : Addr) (k : IK) (X : FX) (ρ : Loc) (σ : Sto) : Prop := CMPL X.C X.A (E X) elt target iter ifs scope pos acc k ρ σ (κ X)
noncomputable abbrev cGet (attr : Str) (κ : KV) : KV := fun X ρ o σ => GET X.C X.A o attr σ (κ X ρ)
noncomputable abbrev cBin2 (op : Operator) (a : MV) (κ : KV) : KV := fun X ρ b σ => BIN X.C X.A op a b σ (κ X ρ)
noncomputable abbrev cBin (E : EF) (r : Expr) (op : Operator) (κ : KV) : KV := fun X ρ a σ => RE E r (cBin2 op a κ) X ρ σ
noncomputable abbrev cCmp2 (op : CmpOp) (a : MV) (κ : KV) : KV := fun X ρ b σ => CMP X.C X.A op a b σ (κ X ρ)
noncomputable abbrev cCmp (E : EF) (r : Expr) (op : CmpOp) (κ : KV) : KV := fun X ρ a σ => RE E r (cCmp2 op a κ) X ρ σ
noncomputable abbrev cTru (κ : KB) : KV := fun X ρ v σ => TRU X.C X.A v σ (κ X ρ)
noncomputable abbrev cTnot (κ : KB) : KB := fun X ρ b σ => κ X ρ (!b) σ
noncomputable abbrev cIfe (E : EF) (b o : Expr) (κ : KV) : KB := fun X ρ k σ => if k then RE E b κ X ρ σ else RE E o κ X ρ σ
noncomputable abbrev cNot2 (κ : KV) : KB := fun X ρ b σ => κ X ρ (.bool (!b)) σ
noncomputable abbrev cAnd2 (E : EF) (y : Expr) (v : MV) (κ : KV) : KB := fun X ρ b σ => if b then RE E y κ X ρ σ else κ X ρ v σ
noncomputable abbrev cAnd (E : EF) (y : Expr) (κ : KV) : KV := fun X ρ v σ => TRU X.C X.A v σ (cAnd2 E y v κ X ρ)
noncomputable abbrev cOr2 (E : EF) (y : Expr) (v : MV) (κ : KV) : KB := fun X ρ b σ => if b then κ X ρ v σ else RE E y κ X ρ σ
noncomputable abbrev cOr (E : EF) (y : Expr) (κ : KV) : KV := fun X ρ v σ => TRU X.C X.A v σ (cOr2 E y v κ X ρ)
noncomputable abbrev cAll (E : EF) (r : List Expr) (κ : KB) : KB := fun X ρ b σ => if b then RL E .And r κ X ρ σ else κ X ρ false σ
noncomputable abbrev cAny (E : EF) (r : List Expr) (κ : KB) : KB := fun X ρ b σ => if b then κ X ρ true σ else RL E .Or r κ X ρ σ
noncomputable abbrev cCons (v : MV) (κ : KS) : KS := fun X ρ vs σ => κ X ρ (v :: vs) σ
noncomputable abbrev cEvs (E : EF) (pos : Pos) (r : List Expr) (κ : KS) : KV := fun X ρ v σ => RS' E pos r (cCons v κ) X ρ σ
noncomputable abbrev cTup (κ : KV) : KS := fun X ρ xs σ => xs.length ≤ 1000000 ∧ ∀ a, σ a = none → κ X ρ (.ref a) (σ.set a (.tuple xs))
noncomputable abbrev cLst (κ : KV) : KS := fun X ρ xs σ => xs.length ≤ 1000000 ∧ ∀ a, σ a = none → κ X ρ (.ref a) (σ.set a (.list xs))
noncomputable abbrev cSub2 (value slice : Expr) (o : MV) (κ : KV) : KV := fun X ρ i σ => SUB X.C X.A value slice o i σ (κ X ρ)
noncomputable abbrev cSub (E : EF) (value slice : Expr) (κ : KV) : KV := fun X ρ o σ => RE E slice (cSub2 value slice o κ) X ρ σ
noncomputable abbrev cArgs (f : MV) (first : List MV) (κ : KV) : KS := fun X ρ vs σ => CALL X.C X.A f (first ++ vs) σ (κ X ρ)
noncomputable abbrev cCall (E : EF) (pos : Pos) (es : List Expr) (κ : KV) : KV := fun X ρ f σ => callee X.C.K f = true ∧ RS' E pos es (cArgs f [] κ) X ρ σ
noncomputable abbrev cMeth02 (κ : KV) (X : FX) (ρ : Loc) : MV → List MV → Sto → Prop := fun f first σ => callee X.C.K f = true ∧ CALL X.C X.A f first σ (κ X ρ)
noncomputable abbrev cMeth0 (name : Str) (κ : KV) : KV := fun X ρ o σ => METH X.C X.A o name σ (cMeth02 κ X ρ)
noncomputable abbrev cMeth2 (E : EF) (pos : Pos) (es : List Expr) (κ : KV) (X : FX) (ρ : Loc) : MV → List MV → Sto → Prop := fun f first σ => callee X.C.K f = true ∧ RS' E pos es (cArgs f first κ) X ρ σ
noncomputable abbrev cMeth (E : EF) (name : Str) (pos : Pos) (es : List Expr) (κ : KV) : KV := fun X ρ o σ => METH X.C X.A o name σ (cMeth2 E pos es κ X ρ)
noncomputable abbrev cNeg (κ : KV) : KV := fun X ρ v σ => negX (κ X ρ) v σ
noncomputable abbrev cSl4 (o l u : MV) (κ : KV) : KV := fun X ρ t σ => SLC X.C X.A o l u t σ (κ X ρ)
noncomputable abbrev cSl3 (E : EF) (st : Option Expr) (o l : MV) (κ : KV) : KV := fun X ρ u σ => RO E st (cSl4 o l u κ) X ρ σ
noncomputable abbrev cSl2 (E : EF) (up st : Option Expr) (o : MV) (κ : KV) : KV := fun X ρ l σ => RO E up (cSl3 E st o l κ) X ρ σ
noncomputable abbrev cSl (E : EF) (lo up st : Option Expr) (κ : KV) : KV := fun X ρ o σ => RO E lo (cSl2 E up st o κ) X ρ σ
noncomputable abbrev cSeq (E : EF) (rest : List Stmt) (κ : KW) : KW := fun X fl ρ σ => match fl with
 | .next => RX E rest κ X ρ σ
 | f => κ X f ρ σ
noncomputable abbrev cLp (ν : KN) (κ : KW) : KW := fun X fl ρ σ => match fl with
 | .next | .cont => ν X ρ σ
 | .brk => κ X .next ρ σ
 | .ret v => κ X (.ret v) ρ σ
noncomputable abbrev cTop : KW := fun X fl U σ => X.Q (retV fl) σ
noncomputable abbrev cDrop (E : EF) (rest : List Stmt) (κ : KW) : KV := fun X ρ U σ => RX E rest κ X ρ σ
noncomputable abbrev cRet (κ : KW) : KV := fun X ρ v σ => κ X (.ret v) ρ σ
noncomputable abbrev cName (E : EF) (x : Str) (rest : List Stmt) (κ : KW) : KV := fun X ρ v σ => RX E rest κ X (setL ρ x v) σ
noncomputable abbrev cIf (E : EF) (b o : List Stmt) (κ : KW) : KB := fun X ρ k σ => if k then RX E b κ X ρ σ else RX E o κ X ρ σ
noncomputable abbrev cNext (E : EF) (rest : List Stmt) (κ : KW) : KN := fun X ρ σ => RX E rest κ X ρ σ
noncomputable abbrev cSetA2 (E : EF) (attr : Str) (v : MV) (rest : List Stmt) (κ : KW) : KV := fun X ρ o σ => SETA X.C X.A o attr v σ (cNext E rest κ X ρ)
noncomputable abbrev cSetA (E : EF) (o : Expr) (attr : Str) (rest : List Stmt) (κ : KW) : KV := fun X ρ v σ => RE E o (cSetA2 E attr v rest κ) X ρ σ
noncomputable abbrev cSetI3 (E : EF) (v o : MV) (rest : List Stmt) (κ : KW) : KV := fun X ρ i σ => SETI X.C X.A o i v σ (cNext E rest κ X ρ)
noncomputable abbrev cSetI2 (E : EF) (i : Expr) (v : MV) (rest : List Stmt) (κ : KW) : KV := fun X ρ o σ => RE E i (cSetI3 E v o rest κ) X ρ σ
noncomputable abbrev cSetI (E : EF) (o i : Expr) (rest : List Stmt) (κ : KW) : KV := fun X ρ v σ => RE E o (cSetI2 E i v rest κ) X ρ σ
noncomputable abbrev cAug4 (E : EF) (attr : Str) (o : MV) (rest : List Stmt) (κ : KW) : KV := fun X ρ nw σ => SETA X.C X.A o attr nw σ (cNext E rest κ X ρ)
noncomputable abbrev cAug3 (E : EF) (attr : Str) (op : Operator) (o old : MV) (rest : List Stmt) (κ : KW) : KV := fun X ρ v σ => INP X.C X.A op old v σ (cAug4 E attr o rest κ X ρ)
noncomputable abbrev cAug2 (E : EF) (attr : Str) (op : Operator) (e : Expr) (o : MV) (rest : List Stmt) (κ : KW) : KV := fun X ρ old σ => RE E e (cAug3 E attr op o old rest κ) X ρ σ
noncomputable abbrev cAug (E : EF) (attr : Str) (op : Operator) (e : Expr) (rest : List Stmt) (κ : KW) : KV := fun X ρ o σ => GET X.C X.A o attr σ (cAug2 E attr op e o rest κ X ρ)
noncomputable abbrev cTgt (E : EF) (t : Expr) (rest : List Stmt) (κ : KW) : KV := fun X ρ v σ => RA E t v (cNext E rest κ) X ρ σ
noncomputable abbrev cAsgs (E : EF) (ts : List Expr) (vs : List MV) (κ : KN) : KN := fun X ρ σ => RM E ts vs κ X ρ σ
noncomputable abbrev cAgW (E : EF) (t : Expr) (b o : List Stmt) (κ : KW) : KN := fun X ρ σ => RW E t b o κ X ρ σ
noncomputable abbrev cLpW (E : EF) (t : Expr) (b o : List Stmt) (κ : KW) : KW := cLp (cAgW E t b o κ) κ
noncomputable abbrev cWh (E : EF) (t : Expr) (b o : List Stmt) (κ : KW) : KB := fun X ρ k σ => if k then RX E b (cLpW E t b o κ) X ρ σ else RX E o κ X ρ σ
noncomputable abbrev cFor2 (E : EF) (t : Expr) (b o : List Stmt) (κ : KW) (X : FX) (ρ : Loc) : IK → Sto → Prop := fun k σ => RF E t b o κ k X ρ σ
noncomputable abbrev cFor (E : EF) (t : Expr) (b o : List Stmt) (κ : KW) : KV := fun X ρ x σ => ITR X.C X.A x σ (cFor2 E t b o κ X ρ)
noncomputable abbrev cAgF (E : EF) (t : Expr) (b o : List Stmt) (κ : KW) (k : IK) : KN := fun X ρ σ => RF E t b o κ k X ρ σ
noncomputable abbrev cLpF (E : EF) (t : Expr) (b o : List Stmt) (κ : KW) (k : IK) : KW := cLp (cAgF E t b o κ k) κ
noncomputable abbrev cBody (E : EF) (b : List Stmt) (κ : KW) : KN := fun X ρ σ => RX E b κ X ρ σ
noncomputable abbrev cEn (E : EF) (ts : List Expr) (kk : Nat) (pt : Pos) (b o : List Stmt) (κ : KW) : KV := fun X ρ x σ₁ => ∃ d it a σ₂, x = .ref d ∧ σ₁ = (σ₂.set it (.it (.list a 0))).set d (.it (.enum it 0)) ∧ σ₂ d = none ∧ σ₂ it = none ∧ d ≠ it ∧ RN E ts kk pt b o κ a 0 X ρ σ₂
noncomputable abbrev cAgN (E : EF) (ts : List Expr) (kk : Nat) (pt : Pos) (b o : List Stmt) (κ : KW) (a : Addr) (i : Nat) : KN := fun X ρ σ => RN E ts kk pt b o κ a i X ρ σ
noncomputable abbrev cLpN (E : EF) (ts : List Expr) (kk : Nat) (pt : Pos) (b o : List Stmt) (κ : KW) (a : Addr) (i : Nat) : KW := cLp (cAgN E ts kk pt b o κ a i) κ
noncomputable abbrev cEC (scope : Scope) (cl : FX → List (Str × Addr)) (E : EF) : EF := fun X => compEnvC scope (cl X) X.M (E X)
noncomputable abbrev FX.at_ (X : FX) (M : Addr) : FX := { X with M := M }
noncomputable abbrev cCm3 (cl : FX → List (Str × Addr)) (κ : KV) (X : FX) (ρ : Loc) (acc : Addr) : KN := fun U ρ' σ' => (∀ p ∈ cl X, ρ'.lookup p.1 = ρ.lookup p.1) ∧ κ X ρ (.ref acc) σ'
noncomputable abbrev cCm2 (E : EF) (elt target iter : Expr) (scope : Scope) (cl : FX → List (Str × Addr)) (ifs : List Expr) (pos : Pos) (κ : KV) (X : FX) (ρ : Loc) : IK → Sto → Prop := fun k σ => k.selfOk = true ∧ ∀ acc L, σ acc = none → RC (cEC scope cl E) elt target iter ifs scope pos (cCm3 cl κ X ρ acc) acc k (X.at_ L) (cfree (cl X) ρ) (σ.set acc (.list []))
noncomputable abbrev cCm (E : EF) (elt target iter : Expr) (scope : Scope) (cl : FX → List (Str × Addr)) (ifs : List Expr) (pos : Pos) (κ : KV) : KV := fun X ρ x σ => ITR X.C X.A x σ (cCm2 E elt target iter scope cl ifs pos κ X ρ)
noncomputable abbrev cCb (E : EF) (elt target iter : Expr) (ifs : List Expr) (scope : Scope) (pos : Pos) (κ : KN) (acc : Addr) (k : IK) : KV := fun X ρ y σ => ∃ ys, σ acc = some (.list ys) ∧ ys.length ≤ 1000000 ∧ RC E elt target iter ifs scope pos κ acc k X ρ (σ.set acc (.list (ys ++ [y])))
noncomputable abbrev cCt (E : EF) (elt target iter : Expr) (ifs : List Expr) (scope : Scope) (pos : Pos) (κ : KN) (acc : Addr) (k : IK) : KN := fun X ρ σ => RE E elt (cCb E elt target iter ifs scope pos κ acc k) X ρ σ
noncomputable abbrev cCi (E : EF) (elt target iter c : Expr) (scope : Scope) (pos : Pos) (κ : KN) (acc : Addr) (k : IK) : KB := fun X ρ b σ => if b then RE E elt (cCb E elt target iter [c] scope pos κ acc k) X ρ σ else RC E elt target iter [c] scope pos κ acc k X ρ σ
noncomputable abbrev cCj (E : EF) (elt target iter c : Expr) (scope : Scope) (pos : Pos) (κ : KN) (acc : Addr) (k : IK) : KN := fun X ρ σ => RT E c (cCi E elt target iter c scope pos κ acc k) X ρ σ
section
variable {E : EF} {X : FX} {ρ : Loc} {σ : Sto} {κ : KV} {β : KB} {μs : KS} {ν : KN} {ω : KW} {pos : Pos}
theorem rLoc {x : Str} {v : MV} (hv : ρ.lookup x = some v) (h : κ X ρ v σ) (hk : ∀ X, (E X).kindOf x = some .local) (hd : (x == ("__debug__" : Str)) = false) : RE E (.Name x pos) κ X ρ σ := EV_loc hv (hk X) h hd
theorem rCell {x : Str} {v : MV} (hv : ρ.lookup x = some v) (h : κ X ρ v σ) (hk : ∀ X, (E X).kindOf x = some .cell) (hc : ∀ X, ((E X).cells.lookup x).isSome = true) (hd : (x == ("__debug__" : Str)) = false) : RE E (.Name x pos) κ X ρ σ := by
 refine xe11 (Option.isSome_iff_exists.mp (hc X)) fun c e => ?_
 exact EV_cell hv (hk X) e h hd
theorem rGl {x : Str} {a : Addr} (hK : PK X.C) (h : κ X ρ (.ref a) σ) (e : ∀ P, nsIn (KF P) mainGlobals x = some (some (.ref a))) (hk : ∀ X, (E X).kindOf x = some .globalImplicit) (hd : (x == ("__debug__" : Str)) = false) : RE E (.Name x pos) κ X ρ σ :=
 EV_gl (by rw [hK]; exact e _) (hk X) h hd
theorem rBt {x : Str} {n : String} (hK : PK X.C) (hv : bootBuiltins x = some (.type n)) (hn : x ≠ "__name__") (h : κ X ρ (.type n) σ) (e : ∀ P, nsIn (KF P) mainGlobals x = some none) (hk : ∀ X, (E X).kindOf x = some .globalImplicit) (hd : (x == ("__debug__" : Str)) = false) : RE E (.Name x pos) κ X ρ σ :=
 EV_bl (by rw [hK]; exact e _) hv hn (hk X) rfl h hd
theorem rBb {x : Str} {n : String} (hK : PK X.C) (hv : bootBuiltins x = some (.builtin n)) (hn : x ≠ "__name__") (h : κ X ρ (.builtin n) σ) (e : ∀ P, nsIn (KF P) mainGlobals x = some none) (hk : ∀ X, (E X).kindOf x = some .globalImplicit) (hd : (x == ("__debug__" : Str)) = false) : RE E (.Name x pos) κ X ρ σ :=
 EV_bl (by rw [hK]; exact e _) hv hn (hk X) rfl h hd
theorem rInt {i : Int} {k : Nat} (h : κ X ρ (.int i) σ) : RE E (.Constant (.int i) k pos) κ X ρ σ := EV_int h
theorem rStr {i : Str} {k : Nat} (h : κ X ρ (.str i) σ) : RE E (.Constant (.str i) k pos) κ X ρ σ := EV_str h
theorem rNone {k : Nat} (h : κ X ρ .none σ) : RE E (.Constant .none k pos) κ X ρ σ := EV_none h
theorem rBool {b : Bool} {k : Nat} (h : κ X ρ (.bool b) σ) : RE E (.Constant (.bool b) k pos) κ X ρ σ := EV_bool h
theorem rBin {l r : Expr} {op : Operator} (h : RE E l (cBin E r op κ) X ρ σ) : RE E (.BinOp l op r pos) κ X ρ σ := EV_bin h
theorem rCmp {l r : Expr} {op : CmpOp} (h : RE E l (cCmp E r op κ) X ρ σ) (hm : behindInMarks op r = false) : RE E (.Compare l [op] [r] pos) κ X ρ σ := EV_cmp h hm
theorem rIfe {t b o : Expr} (h : RT E t (cIfe E b o κ) X ρ σ) : RE E (.IfExp t b o pos) κ X ρ σ := EV_ife h
theorem rNot {x : Expr} (h : RE E x (cTru (cNot2 κ)) X ρ σ) : RE E (.UnaryOp .Not x pos) κ X ρ σ := EV_not h
theorem rNeg {x : Expr} (h : RE E x (cNeg κ) X ρ σ) : RE E (.UnaryOp .USub x pos) κ X ρ σ := EV_neg h
theorem rAnd {x y : Expr} (h : RE E x (cAnd E y κ) X ρ σ) : RE E (.BoolOp .And [x, y] pos) κ X ρ σ := EV_and h
theorem rOr {x y : Expr} (h : RE E x (cOr E y κ) X ρ σ) : RE E (.BoolOp .Or [x, y] pos) κ X ρ σ := EV_or h
theorem rTcmp {l r : Expr} {op : CmpOp} (h : RE E l (cCmp E r op (cTru β)) X ρ σ) (hm : behindInMarks op r = false) : RT E (.Compare l [op] [r] pos) β X ρ σ := TST_cmp h hm
theorem rTnot {x : Expr} (h : RT E x (cTnot β) X ρ σ) : RT E (.UnaryOp .Not x pos) β X ρ σ := TST_not h
theorem rTbool {op : BoolOp} {es : List Expr} (h : RL E op es β X ρ σ) : RT E (.BoolOp op es pos) β X ρ σ := TST_bool h
theorem rTcall {f : Expr} {as : List Expr} {ks : List Keyword} (h : RE E (.Call f as ks pos) (cTru β) X ρ σ) : RT E (.Call f as ks pos) β X ρ σ := TST_call h
theorem rTname {x : Str} (h : RE E (.Name x pos) (cTru β) X ρ σ) : RT E (.Name x pos) β X ρ σ := TST_name h
theorem rTattr {o : Expr} {x : Str} (h : RE E (.Attribute o x pos) (cTru β) X ρ σ) : RT E (.Attribute o x pos) β X ρ σ := TST_attr h
theorem rAll0 (h : β X ρ true σ) : RL E .And [] β X ρ σ := ALLT_and_nil h
theorem rAny0 (h : β X ρ false σ) : RL E .Or [] β X ρ σ := ALLT_or_nil h
theorem rAll1 {x : Expr} {r : List Expr} (h : RT E x (cAll E r β) X ρ σ) : RL E .And (x :: r) β X ρ σ := ALLT_and h
theorem rAny1 {x : Expr} {r : List Expr} (h : RT E x (cAny E r β) X ρ σ) : RL E .Or (x :: r) β X ρ σ := ALLT_or h
theorem rEvs0 (h : μs X ρ [] σ) : RS' E pos [] μs X ρ σ := EVS_nil h
theorem rEvs1 {e : Expr} {r : List Expr} (h : RE E e (cEvs E pos r μs) X ρ σ) (he : plainE e = true) : RS' E pos (e :: r) μs X ρ σ := EVS_cons h (star_plain he r (E X))
theorem rTup {es : List Expr} {k : Nat} (h : RS' E pos es (cTup κ) X ρ σ) : RE E (.Tuple es k pos) κ X ρ σ := EV_tuple h
theorem rLst {es : List Expr} (h : RS' E pos es (cLst κ) X ρ σ) : RE E (.List es pos) κ X ρ σ := EV_list h
theorem rAttr {value : Expr} {attr : Str} (h : RE E value (cGet attr κ) X ρ σ) (hs : notSuper value) : RE E (.Attribute value attr pos) κ X ρ σ := EV_attr h hs
theorem rSub {value slice : Expr} (h : RE E value (cSub E value slice κ) X ρ σ) : RE E (.Subscript value slice pos) κ X ρ σ := EV_sub h
theorem rSlice {value : Expr} {lo up st : Option Expr} {p : Pos} (h : RE E value (cSl E lo up st κ) X ρ σ) : RE E (.Subscript value (.Slice lo up st p) pos) κ X ρ σ := EV_slice h
theorem rO0 (h : κ X ρ .none σ) : RO E none κ X ρ σ := EVO_n h
theorem rO1 {e : Expr} (h : RE E e κ X ρ σ) : RO E (some e) κ X ρ σ := EVO_s h
theorem rCall {x : Str} {fp : Pos} {e : Expr} {es : List Expr} (h : RE E (.Name x fp) (cCall E pos (e :: es) κ) X ρ σ) (hs : plainEs (e :: es) = true) : RE E (.Call (.Name x fp) (e :: es) [] pos) κ X ρ σ :=
 EV_call h rfl (plainEs_1 hs (E X)) (plainEs_r hs (E X))
theorem rMeth0 {o : Expr} {name : Str} {apos : Pos} (h : RE E o (cMeth0 name κ) X ρ σ) (hs : notSuper o) (hp : (apos.endLine == pos.line) = true) : RE E (.Call (.Attribute o name apos) [] [] pos) κ X ρ σ := EV_meth0 h hs hp
theorem rMeth {o e : Expr} {es : List Expr} {name : Str} {apos : Pos} (h : RE E o (cMeth E name pos (e :: es) κ) X ρ σ) (hs : notSuper o) (hp : (apos.endLine == pos.line) = true)
  (hf : (plainEs (e :: es) && Nat.blt es.length 29) = true) : RE E (.Call (.Attribute o name apos) (e :: es) [] pos) κ X ρ σ := by
 refine xe02 (Bool.and_eq_true_iff.mp hf) fun h1 h2 => ?_
 exact EV_meth h hs hp (plainEs_m h1 h2 (E X)) (plainEs_1 h1 (E X)) (plainEs_r h1 (E X))
theorem rFn {f : Addr} {P : Prop} (hK : PK X.C) (h : P) (e : ∀ P, callee (KF P) (.ref f) = true) : callee X.C.K (.ref f) = true ∧ P := ⟨by rw [hK]; exact e _, h⟩
theorem rNil (h : ω X .next ρ σ) : RX E [] ω X ρ σ := EX_nil h
theorem rExpr {e : Expr} {rest : List Stmt} (h : RE E e (cDrop E rest ω) X ρ σ) (hi : ∀ X, interactive (E X) = false) (hs : ∀ X, swapsWith e none pos.line (E X) = pure false) : RX E (.Expr e pos :: rest) ω X ρ σ := EX_cons (EX1_expr h (hi X) (hs X))
theorem rRet {e : Expr} {rest : List Stmt} (h : RE E e (cRet ω) X ρ σ) : RX E (.Return (some e) pos :: rest) ω X ρ σ := EX_cons (EX1_ret h)
theorem rIf {t : Expr} {b o rest : List Stmt} (h : RT E t (cIf E b o (cSeq E rest ω)) X ρ σ) : RX E (.If t b o pos :: rest) ω X ρ σ := EX_cons (EX1_if h)
theorem rSet {x : Str} {p1 : Pos} {e : Expr} {rest : List Stmt} (h : RE E e (cName E x rest ω) X ρ σ) (hk : ∀ X, storeOk (E X) x = true) (hs : ∀ X, swapsWith e (some (.Name x p1)) pos.line (E X) = pure false) : RX E (.Assign [.Name x p1] e pos :: rest) ω X ρ σ := EX_cons (EX1_asg_name h (hk X) (hs X))
theorem rSetA {o e : Expr} {attr : Str} {p1 : Pos} {rest : List Stmt} (h : RE E e (cSetA E o attr rest ω) X ρ σ) (hs : ∀ X, swapsWith e (some (.Attribute o attr p1)) pos.line (E X) = pure false) : RX E (.Assign [.Attribute o attr p1] e pos :: rest) ω X ρ σ := EX_cons (EX1_asg_attr h (hs X))
theorem rSetI {o i e : Expr} {p1 : Pos} {rest : List Stmt} (h : RE E e (cSetI E o i rest ω) X ρ σ) (hs : ∀ X, swapsWith e (some (.Subscript o i p1)) pos.line (E X) = pure false) : RX E (.Assign [.Subscript o i p1] e pos :: rest) ω X ρ σ := EX_cons (EX1_asg_sub h (hs X))
theorem rAug {o e : Expr} {attr : Str} {op : Operator} {p1 : Pos} {rest : List Stmt} (h : RE E o (cAug E attr op e rest ω) X ρ σ) : RX E (.AugAssign (.Attribute o attr p1) op e pos :: rest) ω X ρ σ := EX_cons (EX1_aug_attr h)
theorem rSetT {ts : List Expr} {k : Nat} {tp : Pos} {e : Expr} {rest : List Stmt} (h : RE E e (cTgt E (.Tuple ts k tp) rest ω) X ρ σ)
  (hs : ∀ X, swapsWithSole [.Tuple ts k tp] e pos.line (E X) = pure false) (hw : ∀ X, swappedStores [.Tuple ts k tp] e (E X) = pure none) : RX E (.Assign [.Tuple ts k tp] e pos :: rest) ω X ρ σ := EX_cons (EX1_asg_tuple h (hs X) (hw X))
theorem rSwap {ts es : List Expr} {k k2 : Nat} {tp p2 : Pos} {names : List Str} {rest : List Stmt} (b : X.A.handled = none)
  (h : RS' E p2 es (fun X ρ vs σ => vs.length = names.length ∧ names.length ≤ 1000 ∧ RX E rest ω X (setMany ρ names.reverse vs.reverse) σ) X ρ σ)
  (hw : ∀ X, swappedStores [.Tuple ts k tp] (.Tuple es k2 p2) (E X) = pure (some names)) (hn : ∀ X, names.reverse.all (storeOk (E X)) = true) (hs : ∀ X, swapsWithSole [.Tuple ts k tp] (.Tuple es k2 p2) pos.line (E X) = pure false) :
  RX E (.Assign [.Tuple ts k tp] (.Tuple es k2 p2) pos :: rest) ω X ρ σ := EX_cons (EX1_asg_swap b h (hw X) (hn X) (hs X))
theorem rAN {x : Str} {p : Pos} {v : MV} (h : ν X (setL ρ x v) σ) (hk : ∀ X, storeOk (E X) x = true) : RA E (.Name x p) v ν X ρ σ := ASG_name (hk X) h
theorem rAT {ts : List Expr} {k : Nat} {p : Pos} {a : Addr} {xs : List MV} (b : X.A.handled = none) (e : σ a = some (.tuple xs)) (h : RM E ts xs ν X ρ σ) (hl : ∀ X, (assignEach ts (E X)).length = xs.length) (hs : ∀ X, (assignEach ts (E X)).findIdx? (·.1) = none) :
  RA E (.Tuple ts k p) (.ref a) ν X ρ σ := ASG_tuple b e (hl X) h (hs X)
theorem rM0 (h : ν X ρ σ) : RM E [] [] ν X ρ σ := ASGS_nil h
theorem rMN {x : Str} {p : Pos} {ts : List Expr} {v : MV} {vs : List MV} (h : RM E ts vs ν X (setL ρ x v) σ) (hk : ∀ X, storeOk (E X) x = true) (ht : ∀ X, assignEach (.Name x p :: ts) (E X) = (false, assign (.Name x p) (E X)) :: assignEach ts (E X)) : RM E (.Name x p :: ts) (v :: vs) ν X ρ σ := ASGS_cons (ASG_name (hk X) h) (ht X)
theorem rMC {t : Expr} {ts : List Expr} {v : MV} {vs : List MV} (h : RA E t v (cAsgs E ts vs ν) X ρ σ) (ht : ∀ X, assignEach (t :: ts) (E X) = (false, assign t (E X)) :: assignEach ts (E X)) : RM E (t :: ts) (v :: vs) ν X ρ σ := ASGS_cons h (ht X)
theorem rWhile {t : Expr} {b o rest : List Stmt} (h : RW E t b o (cSeq E rest ω) X ρ σ) : RX E (.While t b o pos :: rest) ω X ρ σ := EX_cons (EX1_while h)
theorem rWh {t : Expr} {b o : List Stmt} (h : RT E t (cWh E t b o ω) X ρ σ) : RW E t b o ω X ρ σ := WH_step h
theorem rFor {t i : Expr} {b o rest : List Stmt} (h : RE E i (cFor E t b o (cSeq E rest ω)) X ρ σ) (hs : notSet i) : RX E (.For t i b o pos :: rest) ω X ρ σ := EX_cons (EX1_for h hs)
theorem rForEn {ts : List Expr} {kk : Nat} {pt fp ep : Pos} {le : Expr} {b o rest : List Stmt} (h : RE E (.Call (.Name "enumerate" fp) [le] [] ep) (cEn E ts kk pt b o (cSeq E rest ω)) X ρ σ) : RX E (.For (.Tuple ts kk pt) (.Call (.Name "enumerate" fp) [le] [] ep) b o pos :: rest) ω X ρ σ := EX_cons (EX1_forEn h)
section
variable {t : Expr} {b o : List Stmt}
theorem rFL {a : Addr} {xs : List MV} {i : Nat} (hh : X.A.handled = none) (e : σ a = some (.list xs)) (h1 : ∀ v, xs[i]? = some v → RA E t v (cBody E b (cLpF E t b o ω (.list a (i + 1)))) X ρ σ) (h2 : xs[i]? = none → RX E o ω X ρ σ) : RF E t b o ω (.list a i) X ρ σ := FORL_list hh e h1 h2
theorem rFT {a : Addr} {xs : List MV} {i : Nat} (hh : X.A.handled = none) (e : σ a = some (.tuple xs)) (h1 : ∀ v, xs[i]? = some v → RA E t v (cBody E b (cLpF E t b o ω (.tuple a (i + 1)))) X ρ σ) (h2 : xs[i]? = none → RX E o ω X ρ σ) : RF E t b o ω (.tuple a i) X ρ σ := FORL_tuple hh e h1 h2
theorem rFR {a : Addr} {xs : List MV} {i : Nat} (hh : X.A.handled = none) (e : σ a = some (.list xs)) (h1 : ∀ j v, i = j + 1 → xs[j]? = some v → RA E t v (cBody E b (cLpF E t b o ω (.rev a ((j : Int) - 1)))) X ρ σ) (h2 : i = 0 → RX E o ω X ρ σ) (hi : i ≤ xs.length) : RF E t b o ω (.rev a ((i : Int) - 1)) X ρ σ := FORL_rev hh e h1 h2 hi
theorem rFK {a : Addr} {es : List (Str × MV)} {i ep n : Nat} (hh : X.A.handled = none) (e : σ a = some (.dict es ep)) (hn : n = es.length) (h1 : ∀ p, es[i]? = some p → RA E t (.str p.1) (cBody E b (cLpF E t b o ω (.keys a (i + 1) n ep))) X ρ σ) (h2 : es[i]? = none → RX E o ω X ρ σ) : RF E t b o ω (.keys a i n ep) X ρ σ := FORL_keys hh e hn h1 h2
theorem rFG {x : Int} {n : Nat} (hh : X.A.handled = none) (h1 : ∀ m, n = m + 1 → RA E t (.int x) (cBody E b (cLpF E t b o ω (.range (x + 1) m 1))) X ρ σ) (h2 : n = 0 → RX E o ω X ρ σ) : RF E t b o ω (.range x n 1) X ρ σ := FORL_range hh h1 h2
theorem rFV {a : Addr} {xs : List MV} {i : Nat} (hh : X.A.handled = none) (e : σ a = some (.tuple xs)) (hz : xs.length ≤ 1000000) (h1 : ∀ j v, i = j + 1 → xs[j]? = some v → RA E t v (cBody E b (cLpF E t b o ω (.trev a ((j : Int) - 1)))) X ρ σ) (h2 : i = 0 → RX E o ω X ρ σ) (hi : i ≤ xs.length) : RF E t b o ω (.trev a ((i : Int) - 1)) X ρ σ := FORL_trev hh e hz h1 h2 hi
theorem rFE {ts : List Expr} {kk : Nat} {pt : Pos} {a : Addr} {xs : List MV} {i : Nat} (hh : X.A.handled = none) (e : σ a = some (.list xs)) (h1 : ∀ v, xs[i]? = some v → RM E ts [.int i, v] (cBody E b (cLpN E ts kk pt b o ω a (i + 1))) X ρ σ) (h2 : xs[i]? = none → RX E o ω X ρ σ)
  (hl : ∀ env, (assignEach ts env).length = 2) (hs : ∀ env, (assignEach ts env).findIdx? (·.1) = none) : RN E ts kk pt b o ω a i X ρ σ := FORE_step hh e h1 h2 hl hs
end
section
variable {elt t i : Expr} {ifs : List Expr} {scope : Scope} {cl : FX → List (Str × Addr)}
theorem rComp (h : RE E i (cCm E elt t i scope cl ifs pos κ) X ρ σ) (hclos : ∀ X, closureFor scope (E X) = pure (cl X)) (hcl : ∀ X, (cl X).map (fun p => (E X).cells.lookup p.1) = (cl X).map fun p => some p.2) (co : ∀ X, compOk scope (E X) (cl X) = true)
  (hE : ∀ X L, E (FX.at_ X L) = E X ∧ cl (FX.at_ X L) = cl X) (hs : notSet i) : RE E (.ListComp elt [⟨t, i, ifs, 0⟩] scope pos) κ X ρ σ := by
 refine EV_comp (hclos X) (hcl X) (co X) (EV.mono h fun v σ' hi => fun xr η s ex g => wpAny_mono (hi xr η s ex g) (fun r s' hh => ?_) fun U U x => x) hs
 refine xe36 hh fun it k σ2 e1 e2 e3 e4 e5 e6 => ?_
 refine ⟨it, k, σ2, e1, e2, e3, e4, e5, fun acc L hL => ?_⟩
 have := e6 acc L hL
 unfold RC cEC at this
 dsimp only at this
 rw [(hE X L).1, (hE X L).2] at this
 exact this
theorem rSetC {p1 : Pos} {x : Str} {rest : List Stmt} (h : RE E i (cCm E elt t i scope cl ifs pos (cName E x rest ω)) X ρ σ) (hx : ∀ X, (E X).kindOf x = some .local) (hclos : ∀ X, closureFor scope (E X) = pure (cl X)) (hcl : ∀ X, (cl X).map (fun p => (E X).cells.lookup p.1) = (cl X).map fun p => some p.2) (co : ∀ X, compOk scope (E X) (cl X) = true)
  (hE : ∀ X L, E (FX.at_ X L) = E X ∧ cl (FX.at_ X L) = cl X) (hs : notSet i) {spos : Pos} (hw : ∀ X, swapsWith (.ListComp elt [⟨t, i, ifs, 0⟩] scope pos) (some (.Name x p1)) spos.line (E X) = pure true) : RX E (.Assign [.Name x p1] (.ListComp elt [⟨t, i, ifs, 0⟩] scope pos) spos :: rest) ω X ρ σ := by
 refine EX_cons (EX1_asg_comp (hclos X) (hcl X) (co X) (hx X) (EV.mono h fun v σ' hi => fun xr η s ex g => wpAny_mono (hi xr η s ex g) (fun r s' hh => ?_) fun U U x => x) hs (hw X))
 refine xe36 hh fun it k σ2 e1 e2 e3 e4 e5 e6 => ?_
 refine ⟨it, k, σ2, e1, e2, e3, e4, e5, fun acc L hL => ?_⟩
 have := e6 acc L hL
 unfold RC cEC at this
 dsimp only at this
 rw [(hE X L).1, (hE X L).2] at this
 exact this
theorem rCL {a acc : Addr} {xs : List MV} {j : Nat} (hh : X.A.handled = none) (e : σ a = some (.list xs)) (h1 : ∀ v, xs[j]? = some v → RA E t v (cCt E elt t i [] scope pos ν acc (.list a (j + 1))) X ρ σ) (h2 : xs[j]? = none → ν X ρ σ) : RC E elt t i [] scope pos ν acc (.list a j) X ρ σ := CMPL_list hh e h1 h2
theorem rCLi {c : Expr} {a acc : Addr} {xs : List MV} {j : Nat} (hh : X.A.handled = none) (e : σ a = some (.list xs)) (h1 : ∀ v, xs[j]? = some v → RA E t v (cCj E elt t i c scope pos ν acc (.list a (j + 1))) X ρ σ) (h2 : xs[j]? = none → ν X ρ σ) : RC E elt t i [c] scope pos ν acc (.list a j) X ρ σ := CMPL_list hh e h1 h2
theorem rCG {acc : Addr} {x : Int} {n : Nat} (hh : X.A.handled = none) (h1 : ∀ m, n = m + 1 → RA E t (.int x) (cCt E elt t i [] scope pos ν acc (.range (x + 1) m 1)) X ρ σ) (h2 : n = 0 → ν X ρ σ) : RC E elt t i [] scope pos ν acc (.range x n 1) X ρ σ := CMPL_range hh h1 h2
end
theorem RX.sub {sts : List Stmt} {σ' : Sto} (k : ∀ a o, σ' a = some o → σ a = some o) (h : RX E sts ω X ρ σ') : RX E sts ω X ρ σ := EX.sub k h
theorem RW.sub {t : Expr} {b o : List Stmt} {σ' : Sto} (k : ∀ a o, σ' a = some o → σ a = some o) (h : RW E t b o ω X ρ σ') : RW E t b o ω X ρ σ := WH.sub k h
theorem RF.sub {t : Expr} {b o : List Stmt} {q : IK} {σ' : Sto} (k : ∀ a o, σ' a = some o → σ a = some o) (h : RF E t b o ω q X ρ σ') : RF E t b o ω q X ρ σ := FORL.sub k h
theorem RN.sub {ts : List Expr} {kk : Nat} {pt : Pos} {b o : List Stmt} {a : Addr} {i : Nat} {σ' : Sto} (k : ∀ a o, σ' a = some o → σ a = some o) (h : RN E ts kk pt b o ω a i X ρ σ') : RN E ts kk pt b o ω a i X ρ σ := fun ok η e it s oe oi hne ne ni g => h ok η e it s oe oi hne ne ni (g.sub k fun U U e => e)
end
theorem CMP_eqT {C : Cx} {A : Around} {σ : Sto} {a b : Str} {Q : MV → Sto → Prop} (h : Q (.bool true) σ) (e : (a == b) = true) : CMP C A .Eq (.str a) (.str b) σ Q := CMP_eq_str (e ▸ h)
theorem CMP_eqF {C : Cx} {A : Around} {σ : Sto} {a b : Str} {Q : MV → Sto → Prop} (h : Q (.bool false) σ) (e : (a == b) = false) : CMP C A .Eq (.str a) (.str b) σ Q := CMP_eq_str (e ▸ h)
theorem CMP_neF {C : Cx} {A : Around} {σ : Sto} {a b : Str} {Q : MV → Sto → Prop} (h : Q (.bool false) σ) (e : (a != b) = false) : CMP C A .NotEq (.str a) (.str b) σ Q := CMP_ne_str (e ▸ h)
theorem len1 {n : Nat} {vs : List Value} (h : vs.length = n + 1) : ∃ a t, vs = a :: t ∧ t.length = n := by
 cases vs with
 | nil => cases h
 | cons a t => exact ⟨a, t, rfl, Nat.succ.inj h⟩
theorem ar0 {P : List Value → Prop} (h : P []) (vs : List Value) (e : vs.length = 0) : P vs := List.eq_nil_of_length_eq_zero e ▸ h
theorem ar1 {P : List Value → Prop} (h : ∀ a, P [a]) (vs : List Value) (e : vs.length = 1) : P vs := by
 refine xe22 (len1 e) fun a t eq2 e1 => ?_; obtain rfl := eq2
 exact ar0 (P := fun t => P (a :: t)) (h a) t e1
theorem ar2 {P : List Value → Prop} (h : ∀ a b, P [a, b]) (vs : List Value) (e : vs.length = 2) : P vs := by
 refine xe22 (len1 e) fun a t eq2 e1 => ?_; obtain rfl := eq2
 exact ar1 (P := fun t => P (a :: t)) (h a) t e1
theorem ar3 {P : List Value → Prop} (h : ∀ a b c, P [a, b, c]) (vs : List Value) (e : vs.length = 3) : P vs := by
 refine xe22 (len1 e) fun a t eq2 e1 => ?_; obtain rfl := eq2
 exact ar2 (P := fun t => P (a :: t)) (h a) t e1
theorem ar4 {P : List Value → Prop} (h : ∀ a b c d, P [a, b, c, d]) (vs : List Value) (e : vs.length = 4) : P vs := by
 refine xe22 (len1 e) fun a t eq2 e1 => ?_; obtain rfl := eq2
 exact ar3 (P := fun t => P (a :: t)) (h a) t e1
theorem ar5 {P : List Value → Prop} (h : ∀ a b c d e, P [a, b, c, d, e]) (vs : List Value) (e : vs.length = 5) : P vs := by
 refine xe22 (len1 e) fun a t eq2 e1 => ?_; obtain rfl := eq2
 exact ar4 (P := fun t => P (a :: t)) (h a) t e1
theorem runFn {C : Cx} (hK : PK C) {A : Around} {σ : Sto} {f : Addr} {oc : Value} {od : Option Addr} {osl : Array (Option Value)} {name qual : Str} {params : Arguments} {body : List Stmt} {scope : Scope} {dV kV doc pm cdv ct : Value} {an : Option Addr} (names : List Str) {args : List MV} {n : Nat} {Q : MV → Sto → Prop}
  {st : Stmt} {rest : List Stmt} {sk : ScopeKind} {snm : List (Str × NameKind)} {sg sc : Bool} {sm : List (Str × Const)}
  (ho : ∀ P, (KF P).lookup f = some ⟨oc, od, .func (fnOf name qual params body scope dV kV doc pm an cdv ct), osl⟩) (hcd : ∀ P, codeIn (KF P) cdv qual = true) (hbd : body = st :: rest) (hsc : scope = ⟨sk, snm, sg, sc, sm⟩)
  (hb : ∀ vs : List Value, vs.length = names.length → bindArgs (fnOf name qual params body scope dV kV doc pm an cdv ct) ⟨vs, []⟩ = pure (names.zip vs)) (hs : scopeOk ⟨sk, snm, sg, sc, sm⟩ names = true) (hl : args.length = names.length)
  (b : Bud A (n + 1)) (h : ∀ X : FX, X.C = C → X.Q = Q → PK X.C → Bud X.A n → RX (fun X => denv qual ⟨sk, snm, sg, sc, sm⟩ X.L f cdv) (st :: rest) cTop X (names.zip args) σ) :
  CALLC C A (.ref f) args σ Q := by
 subst hsc hbd
 exact CALLC_def (by rw [hK]; exact ho _) (by rw [hK]; exact hcd _) hb hs hl b fun L b' => h ⟨C, _, L, 0, Q⟩ rfl rfl hK b'
theorem runFnQ {C : Cx} (hK : PK C) {A : Around} {σ : Sto} {f : Addr} {oc : Value} {od : Option Addr} {osl : Array (Option Value)} {name qual : Str} {params : Arguments} {body : List Stmt} {scope : Scope} {dV kV doc pm cdv ct : Value} {an : Option Addr} (names : List Str) {args : List MV} {n : Nat} {Q : MV → Sto → Prop}
  {st : Stmt} {rest : List Stmt} {sk : ScopeKind} {snm : List (Str × NameKind)} {sg sc : Bool} {sm : List (Str × Const)}
  (ho : ∀ P, (KF P).lookup f = some ⟨oc, od, .func (fnOf name qual params body scope dV kV doc pm an cdv ct), osl⟩) (hcd : ∀ P, codeIn (KF P) cdv qual = true) (hbd : body = st :: rest) (hsc : scope = ⟨sk, snm, sg, sc, sm⟩)
  (hb : ∀ vs : List Value, vs.length = names.length → bindArgs (fnOf name qual params body scope dV kV doc pm an cdv ct) ⟨vs, []⟩ = pure (names.zip vs)) (hs : scopeOk ⟨sk, snm, sg, sc, sm⟩ names = true) (hl : args.length = names.length)
  (b : Bud A (n + 1)) (h : ∀ X : FX, X.C = C → (∀ v σ', Q v σ' → X.Q v σ') → PK X.C → Bud X.A n → RX (fun X => denv qual ⟨sk, snm, sg, sc, sm⟩ X.L f cdv) (st :: rest) cTop X (names.zip args) σ) :
  CALLC C A (.ref f) args σ Q := runFn hK names ho hcd hbd hsc hb hs hl b fun X e1 e2 => h X e1 fun U U q => e2 ▸ q
theorem EX1.mono2 {C : Cx} {A : Around} {env : Env} {ρ : Loc} {σ : Sto} {st : Stmt} {Q Q' : MF → Loc → Sto → Prop} (h : EX1 C A env st ρ σ Q) (k : ∀ f ρ σ, Q f ρ σ → Q' f ρ σ) : EX1 C A env st ρ σ Q' := fun ok η s g => wpK2 (h ok η s g) (fun U U ρ' σ' g' q => ⟨ρ', σ', g', k _ _ _ q⟩)
theorem rIfC {E : EF} {X : FX} {ρ : Loc} {σ : Sto} {ω : KW} {pos : Pos} {t : Expr} {b o rest : List Stmt} (P : Loc → Sto → Prop) (h : RT E t (cIf E b o fun U fl ρ' σ' => fl = .next ∧ P ρ' σ') X ρ σ) (k : ∀ ρ' σ', P ρ' σ' → RX E rest ω X ρ' σ') : RX E (.If t b o pos :: rest) ω X ρ σ :=
 EX_cons (EX1.mono2 (EX1_if h) fun U ρ' σ' q => by refine xe02 q fun eq0 p => ?_; obtain rfl := eq0; exact k ρ' σ' p)
theorem RE.mono {E : EF} {X : FX} {ρ : Loc} {σ : Sto} {κ : KV} {e : Expr} (P : MV → Sto → Prop) (h : RE E e (fun U U v σ' => P v σ') X ρ σ) (k : ∀ v σ', P v σ' → κ X ρ v σ') : RE E e κ X ρ σ := EV.mono h k
end
local macro_rules | `(tactic| walk_at $s:str) => do
 let w := match s.getString with
  | "e" => "rAttr,w/rMeth0,w,t/rMeth,w,t,t/rCall,t/rInt,/rStr,/rNone,/rBool,/rSlice,/rSub,/rTup,/rLst,/rCmp,f/rBin,/rIfe,/rNot,/rAnd,/rOr,/rNeg,"
  | "sx" => "rIf,/rExpr,F,s/rRet,/rSet,T,s/rSetA,s/rSetI,s/rAug,/rWhile,/rForEn,/rFor,x/rNil,"
  | "st" => "rTcmp,f/rTnot,/rTbool,/rTcall,/rTname,/rTattr,"
  | "sc" => "CMP_gt_int,/CMP_lt_int,/CMP_eq_int,/CMP_ne_int,/CMP_eqT,t/CMP_eqF,f/CMP_neF,f/CMP_eq_str,/CMP_ne_str,/CMP_is_none,/CMP_isnot_none,"
  | "a" => "rAN,T/rMN,T,i/rM0,/rSetT,s,z/rComp,i,i,T,h,x/rSetC,l,i,i,T,h,x,p"
  | "r" => "rEvs1,t/rEvs0,/callee_blt,/callee_type,/rO0,/rO1,/neg_lit,/TRU_bool,/if_t,/if_f,/rAll1,/rAny1,/rAll0,/rAny0,/BIN_add,/BIN_sub,/rFn,.,_,T"
  | "sn" => "rLoc,?,_,l,f/rGl,.,_,v,g,f/rBb,.,j,-,_,n,g,f/rBt,.,j,-,_,n,g,f/rCell,?,_,c,T,f"
  | "f" => "=f"
  | w => w
 let u := fun (c : String) => Lean.mkIdent (.mkSimple ("U" ++ c))
 if w.contains ',' then
  let h ← `(?_)
  let k ← `(by walk_at "look")
  let p ← `(‹PK _›)
  let d ← `(by decide)
  let q ← `(by with_unfolding_all exact x)
  let xs := ((w.splitOn "/").map fun a => match a.splitOn "," with
   | n :: cs =>
    let us := (cs.filter (· != "")).map fun c => if c == "?" then k else if c == "." then p else if c == "-" then d else if c == "_" then h else ⟨q.raw.rewriteBottomUp fun z => if z.isIdent then u c else z⟩
    Lean.Syntax.mkApp (Lean.mkIdent (.mkSimple n)) (if cs.contains "_" then us else h :: us).toArray
   | _ => h).toArray
  `(tactic| with_reducible first $[| refine $xs:term]*)
 else match w.toList with
  | ['=', c] => `(tactic| with_unfolding_all exact $(u c.toString))
  | _ => Lean.Macro.throwUnsupported
local macro_rules | `(tactic| walk_at "S") => `(tactic| repeat walk_at "s")
local macro_rules | `(tactic| walk_at "look") => `(tactic| first | with_reducible assumption | with_reducible exact look_eq | (with_reducible refine look_ne (by walk_at "f") ?_; walk_at "look") | with_unfolding_all rfl | assumption)
local macro_rules | `(tactic| walk_at "s") => `(tactic| first | ((with_reducible show RE _ _ _ _ _ _); first | ((with_reducible show RE _ (.Name _ _) _ _ _ _); walk_at "sn") | walk_at "e") | ((with_reducible show RX _ _ _ _ _ _); walk_at "sx") | ((with_reducible show RT _ _ _ _ _ _); walk_at "st") | ((with_reducible show CMP _ _ _ _ _ _ _); walk_at "sc") | walk_at "r")
local macro_rules | `(tactic| walk_at "len") => `(tactic| first | (with_reducible refine setL_le ?_; walk_at "len") | assumption | exact Nat.zero_le _ | exact Nb rfl)
local macro_rules | `(tactic| walk_at "lk") => `(tactic| first | with_reducible exact look_eq | (with_reducible refine look_ne (by walk_at "f") ?_; walk_at "lk") | with_reducible assumption | with_reducible rfl)
local macro_rules | `(tactic| walk_at "mm") => `(tactic| first | with_reducible exact List.mem_cons_self | (with_reducible refine List.mem_cons_of_mem _ ?_; walk_at "mm"))
section
theorem add_once_C {C : Cx} (hK : PK C) {A : Around} {n : Nat} (b : Bud A (n + 1)) {σ : Sto} {a : Addr} {xs : List Str} {x : Str} {Q : MV → Sto → Prop} (e : σ a = some (.list (xs.map .str))) (hz : xs.length ≤ 1000)
  (h : Q .none (if xs.contains x then σ else σ.set a (.list ((xs ++ [x]).map .str)))) : CALLC C A (.ref 63) [.ref a, .str x] σ Q := by
 refine runFn hK (f := 63) ["names", "name"] (fun U => rfl) (fun U => rfl) rfl rfl (ar2 fun U U => rfl) rfl rfl b fun FF e1 e2 hK b' => ?_
 subst e1 e2
 walk_at "S"
 refine CMP_notin_strs e ?_
 walk_at "S"
 refine if_b (fun hc => ?_) (fun hc => ?_)
 ·walk_at "S"
  refine METH_append e ?_
  refine ⟨rfl, ?_⟩
  walk_at "S"
  refine CALL_append e (by simp; lia) ?_
  walk_at "S"
  simp at hc
  simp [hc] at h
  exact h
 ·walk_at "S"
  simp at hc
  simp [hc] at h
  exact h
end
section
theorem nodes_of_C {C : Cx} (hK : PK C) {A : Around} {n m : Nat} (b : Bud A (n + 1)) {Λ σ : Sto} (on : On Λ σ) {v : MV} {L : List MV} (f : Flat Λ v L m) (hm : m ≤ 1000) {Q : MV → Sto → Prop}
  (h : ∀ d, σ d = none → Q (.ref d) (σ.set d (.list L))) : CALLC C A (.ref 42) [v] σ Q := by
 refine runFn hK (f := 42) ["part"] (fun U => rfl) (fun U => rfl) rfl rfl (ar1 fun U => rfl) rfl rfl b fun FF e1 e2 hK b' => ?_
 subst e1 e2
 walk_at "S"
 with_reducible refine rSwap (names := [Str.ofString "found", Str.ofString "waiting"]) b'.h ?_ (by walk_at "=i") (by walk_at "=T") (by walk_at "=s")
 walk_at "S"
 refine ⟨Nat.zero_le _, fun fo hfo => ?_⟩
 walk_at "S"
 refine ⟨Nb rfl, fun wa hwa => ?_⟩
 walk_at "S"
 refine ⟨rfl, by decide, ?_⟩
 have hne : wa ≠ fo := by rintro rfl; rw [Sto.set_self] at hwa; exact sn hwa
 have hwa' : σ wa = none := by rwa [Sto.set_ne _ _ hne] at hwa
 rw [two_swap hne]
 walk_at "S"
 have onT : ∀ S X, On Λ (two σ wa fo S X) := fun S X => on.two hwa' hfo
 refine flats_loop (B := 1000) (P := fun ρ => LK ρ "found" (.ref fo) ∧ LK ρ "waiting" (.ref wa)) (R := fun ρ S X => RW _ _ _ _ _ FF ρ (two σ wa fo S X)) (S := []) (X := []) ?_ f ⟨by rfl, by rfl⟩ (by rw [List.length_nil, Nat.zero_add]; exact hm) ?_
 ·intro ρ S X v I O p z e k
  have z1 : S.length + I.length + 1 ≤ 1000 := Nat.le_trans (Nat.succ_le_succ (Nat.le_add_right ..)) z
  have z2 : X.length ≤ 1000 := Nat.le_trans (Nat.le_add_left ..) (Nat.le_of_succ_le z)
  have hS : S.length ≤ 1000000 := Nat.le_trans (Nat.le_trans (Nat.le_add_right ..) (Nat.le_of_succ_le z1)) (Nb rfl)
  refine rWh ?_
  refine xe02 p fun p1 p2 => ?_
  walk_at "S"
  refine CALL_len_list (xs := S ++ [v]) (two_wa hne) (by rw [List.length_append]; exact Nat.le_trans (Nat.succ_le_succ (Nat.le_trans (Nat.le_add_right ..) (Nat.le_of_succ_le z1))) (Nb rfl)) ?_
  walk_at "S"
  refine if_p (len_gt S v) ?_
  walk_at "S"
  refine METH_pop (two_wa hne) ?_
  walk_at "S"
  refine CALL_pop (two_wa hne) hS ?_
  rw [two_set_wa hne]
  walk_at "S"
  cases e with
  | node e =>
   refine xe12 ((onT S X).inst e) fun fs' e' U => ?_
   refine CALL_isinst (KT_inst e' (by rw [hK]; exact ⟨by rfl, by rfl, by rfl, by rfl, by rfl, by rfl⟩)) (b := true) (by rw [hK]; rfl) ?_
   walk_at "S"
   refine METH_append two_fo ?_
   walk_at "S"
   refine CALL_append two_fo (Nat.le_trans z2 (Nb rfl)) ?_
   rw [two_set_fo]
   walk_at "S"
   rw [List.reverse_nil, List.append_nil] at k
   exact k _ ⟨p1.set (by walk_at "f"), p2.set (by walk_at "f")⟩
  | @list a xs e =>
   have el : ∀ S X, two σ wa fo S X a = some (.list I) := fun S X => (onT S X).list e
   refine CALL_isinst (KT_list (el S X)) (b := false) (by rw [hK]; rfl) ?_
   walk_at "S"
   refine ⟨Nb rfl, fun t ht => ?_⟩
   walk_at "S"
   refine CALL_isinst2 (KT_list (keep_new ht (el S X))) (Sto.set_self ..) (b := true) (by rw [hK]; rfl) ?_
   walk_at "S"
   refine CALL_reversed (keep_new ht (el S X)) fun d hd => ?_
   refine ITR_rev hd (RF.sub (sub_new ht) ?_)
   refine down_loop (B := 1000) (P := fun ρ => LK ρ "found" (.ref fo) ∧ LK ρ "waiting" (.ref wa)) (xs := I) (R := fun i ρ S => RF _ _ _ _ _ (.rev a ((i : Int) - 1)) FF ρ (two σ wa fo S X)) ?_ I.length _ S (Nat.le_refl _) (Nat.le_of_succ_le z1) ⟨p1.set (by walk_at "f"), p2.set (by walk_at "f")⟩ ?_
   ·rintro j v ρ S ⟨p1, p2⟩ zS hv k
    refine rFR b'.h (el S X) (i := j + 1) (fun j' v' ej ev => ?_) (fun h => absurd h (Nat.succ_ne_zero _)) (Gs hv).1
    obtain rfl : j = j' := Nat.succ.inj ej
    obtain rfl : v = v' := Option.some.inj (hv.symm.trans ev)
    walk_at "a"
    walk_at "S"
    refine METH_append (two_wa hne) ?_
    walk_at "S"
    refine CALL_append (two_wa hne) (Nat.le_trans (Nat.le_of_succ_le zS) (Nb rfl)) ?_
    rw [two_set_wa hne]
    walk_at "S"
    exact k _ ⟨p1.set (by walk_at "f"), p2.set (by walk_at "f")⟩
   ·rintro ρ ⟨p1, p2⟩
    refine rFR b'.h (el _ X) (i := 0) (fun j' v' ej ev => absurd ej.symm (Nat.succ_ne_zero _)) (fun U => ?_) (Nat.zero_le _)
    walk_at "S"
    rw [List.take_length]
    rw [List.append_nil] at k
    exact k _ ⟨p1, p2⟩
  | @tuple a xs e =>
   have el : ∀ S X, two σ wa fo S X a = some (.tuple I) := fun S X => (onT S X).tuple e
   have hI : I.length ≤ 1000000 := Nat.le_trans (Nat.le_trans (Nat.le_add_left ..) (Nat.le_of_succ_le z1)) (Nb rfl)
   refine CALL_isinst (KT_tuple (el S X)) (b := false) (by rw [hK]; rfl) ?_
   walk_at "S"
   refine ⟨Nb rfl, fun t ht => ?_⟩
   walk_at "S"
   refine CALL_isinst2 (KT_tuple (keep_new ht (el S X))) (Sto.set_self ..) (b := true) (by rw [hK]; rfl) ?_
   walk_at "S"
   refine CALL_reversedT (keep_new ht (el S X)) hI fun d hd => ?_
   refine ITR_trev hd (RF.sub (sub_new ht) ?_)
   refine down_loop (B := 1000) (P := fun ρ => LK ρ "found" (.ref fo) ∧ LK ρ "waiting" (.ref wa)) (xs := I) (R := fun i ρ S => RF _ _ _ _ _ (.trev a ((i : Int) - 1)) FF ρ (two σ wa fo S X)) ?_ I.length _ S (Nat.le_refl _) (Nat.le_of_succ_le z1) ⟨p1.set (by walk_at "f"), p2.set (by walk_at "f")⟩ ?_
   ·rintro j v ρ S ⟨p1, p2⟩ zS hv k
    refine rFV b'.h (el S X) hI (i := j + 1) (fun j' v' ej ev => ?_) (fun h => absurd h (Nat.succ_ne_zero _)) (Gs hv).1
    obtain rfl : j = j' := Nat.succ.inj ej
    obtain rfl : v = v' := Option.some.inj (hv.symm.trans ev)
    walk_at "a"
    walk_at "S"
    refine METH_append (two_wa hne) ?_
    walk_at "S"
    refine CALL_append (two_wa hne) (Nat.le_trans (Nat.le_of_succ_le zS) (Nb rfl)) ?_
    rw [two_set_wa hne]
    walk_at "S"
    exact k _ ⟨p1.set (by walk_at "f"), p2.set (by walk_at "f")⟩
   ·rintro ρ ⟨p1, p2⟩
    refine rFV b'.h (el _ X) hI (i := 0) (fun j' v' ej ev => absurd ej.symm (Nat.succ_ne_zero _)) (fun U => ?_) (Nat.zero_le _)
    walk_at "S"
    rw [List.take_length]
    rw [List.append_nil] at k
    exact k _ ⟨p1, p2⟩
  | oth e =>
   have kt : ∀ σ, ∃ T, KT FF.C σ v (.type T) ∧ kitOne FF.C.K (.type T) (.ref 31) = some false ∧ kitAny FF.C.K (.type T) [.type "list", .type "tuple"] = some false := fun σ => by
    rcases e with rfl | ⟨b, rfl⟩ | ⟨x, rfl⟩
    ·exact ⟨_, KT_none, by rw [hK]; rfl, by rw [hK]; rfl⟩
    ·exact ⟨_, KT_bool, by rw [hK]; rfl, by rw [hK]; rfl⟩
    ·exact ⟨_, KT_str, by rw [hK]; rfl, by rw [hK]; rfl⟩
   refine xe13 (kt (two σ wa fo S X)) fun T k1 k2 U => ?_
   refine CALL_isinst k1 k2 ?_
   walk_at "S"
   refine ⟨Nb rfl, fun t ht => ?_⟩
   walk_at "S"
   refine xe13 (kt ((two σ wa fo S X).set t (.tuple [.type "list", .type "tuple"]))) fun T k1 U k3 => ?_
   refine CALL_isinst2 k1 (Sto.set_self ..) k3 ?_
   walk_at "S"
   rw [List.append_nil, List.reverse_nil, List.append_nil] at k
   exact RW.sub (sub_new ht) (k _ ⟨p1.set (by walk_at "f"), p2.set (by walk_at "f")⟩)
 ·rintro ρ ⟨p1, p2⟩
  refine rWh ?_
  walk_at "S"
  refine CALL_len_list (xs := []) (two_wa hne) (Nat.zero_le _) ?_
  walk_at "S"
  refine if_f (RX.sub (two_sub hwa' hne) ?_)
  walk_at "S"
  exact h _ hfo
end
section
noncomputable def attrOk (K : Frag) (D : Addr) (x : Str) : Bool := plainGet K D x && hasDictIn K D && (findIn K (.ref D) x == some none)
noncomputable def setOk (K : Frag) (D : Addr) (x : Str) : Bool := (findIn K (.ref D) "__setattr__" == some (some (.builtin "object.__setattr__"))) && plainOver K D && hasDictIn K D && (takerIn K D x == some none)
theorem attr_of {K : Frag} {D : Addr} {x : Str} (h : attrOk K D x = true) : OwnAttr K D x := by
 simp only [attrOk, Bool.and_eq_true, beq_iff_eq] at h; exact ⟨h.1.1, h.1.2, h.2⟩
theorem set_of {K : Frag} {D : Addr} {x : Str} (h : setOk K D x = true) : OwnSet K D x := by
 simp only [setOk, Bool.and_eq_true, beq_iff_eq] at h; exact ⟨h.1.1.1, h.1.1.2, h.1.2, h.2⟩
noncomputable def nodeA : List Str := ["kind", "line", "parts", "scope"]
noncomputable def bindA : List Str := ["name", "sort", "is_captured", "place"]
noncomputable def scopeA : List Str := ["node", "parent", "is_program", "sort", "params", "body", "is_strict", "functions", "var_names", "uses_arguments", "own", "self_binding", "children", "catches", "captures", "captured", "local_count", "cell_count", "param_places"]
noncomputable def catchA : List Str := ["node", "parent", "sort", "name", "caught"]
section
variable (P : Params)
theorem nodeG : nodeA.all (attrOk (KF P) 31) = true := by kernel_rfl
theorem nodeS : nodeA.all (setOk (KF P) 31) = true := by kernel_rfl
theorem bindG : bindA.all (attrOk (KF P) 114) = true := by kernel_rfl
theorem bindS : bindA.all (setOk (KF P) 114) = true := by kernel_rfl
theorem scopeG : scopeA.all (attrOk (KF P) 184) = true := by kernel_rfl
theorem scopeS : scopeA.all (setOk (KF P) 184) = true := by kernel_rfl
theorem catchG : catchA.all (attrOk (KF P) 233) = true := by kernel_rfl
theorem catchS : catchA.all (setOk (KF P) 233) = true := by kernel_rfl
end
section
variable {C : Cx} (hK : PK C) {x : Str}
include hK
theorem OA_node (h : x ∈ nodeA) : OwnAttr C.K 31 x := attr_of (List.all_eq_true.mp (hK ▸ nodeG C.w.params) x h)
theorem OS_node (h : x ∈ nodeA) : OwnSet C.K 31 x := set_of (List.all_eq_true.mp (hK ▸ nodeS C.w.params) x h)
theorem OA_bind (h : x ∈ bindA) : OwnAttr C.K 114 x := attr_of (List.all_eq_true.mp (hK ▸ bindG C.w.params) x h)
theorem OS_bind (h : x ∈ bindA) : OwnSet C.K 114 x := set_of (List.all_eq_true.mp (hK ▸ bindS C.w.params) x h)
theorem OA_scope (h : x ∈ scopeA) : OwnAttr C.K 184 x := attr_of (List.all_eq_true.mp (hK ▸ scopeG C.w.params) x h)
theorem OS_scope (h : x ∈ scopeA) : OwnSet C.K 184 x := set_of (List.all_eq_true.mp (hK ▸ scopeS C.w.params) x h)
theorem OA_catch (h : x ∈ catchA) : OwnAttr C.K 233 x := attr_of (List.all_eq_true.mp (hK ▸ catchG C.w.params) x h)
theorem OS_catch (h : x ∈ catchA) : OwnSet C.K 233 x := set_of (List.all_eq_true.mp (hK ▸ catchS C.w.params) x h)
theorem OK_scope : OwnKind C.K 184 := by rw [hK]; exact ⟨by rfl, by rfl, by rfl, by rfl, by rfl, by rfl⟩
theorem OK_catch : OwnKind C.K 233 := by rw [hK]; exact ⟨by rfl, by rfl, by rfl, by rfl, by rfl, by rfl⟩
end
end
section
structure Nd (Λ : Sto) (a : Addr) (kind : Str) (p : Addr) (ps : List MV) : Prop where
 at_ : ∃ fs, Λ a = some (.inst 31 fs) ∧ LK fs "kind" (.str kind) ∧ LK fs "parts" (.ref p) ∧ fs.length ≤ 4
 ps : Λ p = some (.list ps)
theorem Nd.on {Λ σ : Sto} {a p : Addr} {kind : Str} {ps : List MV} (h : Nd Λ a kind p ps) (on : On Λ σ) : ∃ fs, σ a = some (.inst 31 fs) ∧ LK fs "kind" (.str kind) ∧ LK fs "parts" (.ref p) ∧ σ p = some (.list ps) := by
 obtain ⟨fs, e, h1, h2, _⟩ := h.at_
 obtain ⟨fs', e', h3⟩ := on.inst e
 exact ⟨fs', e', (h3 _ (by decide)).trans h1, (h3 _ (by decide)).trans h2, on.list h.ps⟩
section
variable {C : Cx} (hK : PK C) {A : Around} {n m : Nat}
include hK
theorem GET_kind {Λ σ : Sto} {a p : Addr} {kind : Str} {ps : List MV} {Q : MV → Sto → Prop} (h : Nd Λ a kind p ps) (on : On Λ σ) (k : Q (.str kind) σ) : GET C A (.ref a) "kind" σ Q := by
 obtain ⟨fs, e, h1, _, _⟩ := h.on on
 exact GET_own e h1 (OA_node hK (by decide)) k
theorem GET_parts {Λ σ : Sto} {a p : Addr} {kind : Str} {ps : List MV} {Q : MV → Sto → Prop} (h : Nd Λ a kind p ps) (on : On Λ σ) (k : Q (.ref p) σ) : GET C A (.ref a) "parts" σ Q := by
 obtain ⟨fs, e, _, h1, _⟩ := h.on on
 exact GET_own e h1 (OA_node hK (by decide)) k
theorem inner_nodes_C (b : Bud A (n + 2)) {Λ σ : Sto} (on : On Λ σ) {a p : Addr} {kind : Str} {ps : List MV} (nd : Nd Λ a kind p ps) {L : List MV} (f : Flat Λ (.ref p) L m) (hm : m ≤ 1000) {Q : MV → Sto → Prop}
  (h : ∀ d, σ d = none → Q (.ref d) (σ.set d (.list L))) : CALLC C A (.ref 49) [.ref a] σ Q := by
 refine runFn hK (f := 49) ["node"] (fun U => rfl) (fun U => rfl) rfl rfl (ar1 fun U => rfl) rfl rfl b fun FF e1 e2 hK b' => ?_
 subst e1 e2
 walk_at "S"
 refine GET_parts hK nd on ?_
 walk_at "S"
 refine (nodes_of_C hK b' on f hm fun d hd => ?_).call
 walk_at "S"
 exact h d hd
end
end
section
inductive Owns (Λ : Sto) : List MV → List MV → Nat → Prop where
 | nil : Owns Λ [] [] 0
 | at_ {a p : Addr} {ps L R T xs : List MV} {kind : Str} {n k : Nat} (e : Nd Λ a kind p ps) (c : (kind = "Function" ∧ L = []) ∨ (kind ≠ "Function" ∧ ∃ m, Flat Λ (.ref p) L m ∧ m ≤ 1000)) (q : Owns Λ L R n) (r : Owns Λ xs T k) : Owns Λ (.ref a :: xs) (.ref a :: (R ++ T)) (n + k + 1)
theorem Owns.size {Λ : Sto} {v L : List MV} {n : Nat} (h : Owns Λ v L n) : v.length ≤ n ∧ L.length = n := by
 induction h with
 | nil => exact ⟨Nat.le_refl _, rfl⟩
 | at_ _ _ _ _ i1 i2 => exact ⟨Nat.succ_le_succ (Nat.le_trans i2.1 (Nat.le_add_left ..)), by rw [List.length_cons, List.length_append, i1.2, i2.2]⟩
theorem Owns.app {Λ : Sto} {xs ys L M : List MV} {n m : Nat} (h : Owns Λ xs L n) (h' : Owns Λ ys M m) : Owns Λ (xs ++ ys) (L ++ M) (n + m) := by
 induction h with
 | nil => rw [Nat.zero_add]; exact h'
 | @at_ a p ps L R T xs kind n k e c q r _ ih =>
  rw [Nat.add_right_comm, Nat.add_assoc n k m, List.cons_append, List.cons_append, List.append_assoc]
  exact .at_ e c q ih
theorem owns_loop {Λ : Sto} {P : Loc → Prop} {R : Loc → List MV → List MV → Prop} {B : Nat}
  (step : ∀ ρ S X a p ps L kind, P ρ → S.length + L.length + X.length + 1 ≤ B → Nd Λ a kind p ps → (kind = "Function" ∧ L = []) ∨ (kind ≠ "Function" ∧ ∃ m, Flat Λ (.ref p) L m ∧ m ≤ 1000) → (∀ ρ', P ρ' → R ρ' (S ++ L.reverse) (X ++ [.ref a])) → R ρ (S ++ [.ref a]) X)
  {xs L : List MV} {n : Nat} (f : Owns Λ xs L n) : ∀ {ρ : Loc} {S X : List MV}, P ρ → S.length + X.length + n ≤ B → (∀ ρ', P ρ' → R ρ' S (X ++ L)) → R ρ (S ++ xs.reverse) X := by
 induction f with
 | nil => intro ρ S X p h1 k; rw [List.reverse_nil, List.append_nil]; have := k ρ p; rwa [List.append_nil] at this
 | @at_ a p ps L R' T xs kind n m e c q r iq ih =>
  intro ρ S X pp h1 k
  rw [List.reverse_cons, ← List.append_assoc]
  refine xe03 (len_sum h1 q.size.1 r.size.1 (Nat.le_refl 1) (Nat.le_of_eq q.size.2)) fun b1 b3 b5 => ?_
  rw [← List.length_reverse (as := xs), ← List.length_append] at b1 b3
  rw [← List.length_singleton (a := MV.ref a), ← List.length_append] at b3 b5
  rw [← List.length_append] at b5
  refine step _ _ _ _ _ _ _ _ pp b1 e c fun ρ' p' => iq p' b3 fun ρ'' p'' => ih p'' b5 fun ρ3 p3 => ?_
  rw [List.append_assoc, List.append_assoc]; exact k ρ3 p3
theorem own_nodes_C {C : Cx} (hK : PK C) {A : Around} {n m : Nat} (b : Bud A (n + 3)) {Λ σ : Sto} (on : On Λ σ) {v : MV} {L R : List MV} {k : Nat} (f : Flat Λ v L m) (hm : m ≤ 1000) (fs : Owns Λ L R k) (hk : k ≤ 1000) {Q : MV → Sto → Prop}
  (h : ∀ d, σ d = none → Q (.ref d) (σ.set d (.list R))) : CALLC C A (.ref 56) [v] σ Q := by
 refine runFn hK (f := 56) ["body"] (fun U => rfl) (fun U => rfl) rfl rfl (ar1 fun U => rfl) rfl rfl b fun FF e1 e2 hK b' => ?_
 subst e1 e2
 walk_at "S"
 with_reducible refine rSwap (names := [Str.ofString "found", Str.ofString "waiting"]) b'.h ?_ (by walk_at "=i") (by walk_at "=T") (by walk_at "=s")
 walk_at "S"
 refine ⟨Nat.zero_le _, fun fo hfo => ?_⟩
 walk_at "S"
 refine (nodes_of_C hK b' (on.new hfo) f hm fun d hd => ?_).call
 walk_at "S"
 refine SLC_rev (xs := L) (Sto.set_self ..) (Nat.le_trans fs.size.1 (Nat.le_trans hk (Nb rfl))) fun wa hwa => ?_
 walk_at "S"
 refine ⟨rfl, by decide, ?_⟩
 have hdf : d ≠ fo := by rintro rfl; rw [Sto.set_self] at hd; exact sn hd
 have hne : wa ≠ fo := by rintro rfl; rw [Sto.set_ne _ _ (Ne.symm hdf), Sto.set_self] at hwa; exact sn hwa
 have hwd : wa ≠ d := by rintro rfl; rw [Sto.set_self] at hwa; exact sn hwa
 have hwa' : σ wa = none := by rwa [Sto.set_ne _ _ hwd, Sto.set_ne _ _ hne] at hwa
 have onT : ∀ S X, On Λ (two σ wa fo S X) := fun S X => on.two hwa' hfo
 refine RX.sub (σ' := two σ wa fo ([] ++ L.reverse) []) (fun a o e => ?_) ?_
 ·rw [List.nil_append] at e
  rw [← two_swap hne] at e
  by_cases h1 : a = wa
  ·subst h1; rw [Sto.set_self] at e ⊢; exact e
  ·rw [Sto.set_ne _ _ h1] at e ⊢
   exact keep_new hd e
 walk_at "S"
 refine owns_loop (B := 2000) (P := fun ρ => LK ρ "found" (.ref fo) ∧ LK ρ "waiting" (.ref wa)) (R := fun ρ S X => RW _ _ _ _ _ FF ρ (two σ wa fo S X)) (S := []) (X := []) ?_ fs ⟨by rfl, by rfl⟩ (by rw [List.length_nil, Nat.zero_add]; exact Nat.le_trans hk (Nb rfl)) ?_
 ·rintro ρ S X a p ps L kind ⟨p1, p2⟩ z nd c k
  have z1 : S.length + L.length + 1 ≤ 2000 := Nat.le_trans (Nat.succ_le_succ (Nat.le_add_right ..)) z
  have z2 : X.length ≤ 2000 := Nat.le_trans (Nat.le_add_left ..) (Nat.le_of_succ_le z)
  have zS : S.length ≤ 1000000 := Nat.le_trans (Nat.le_trans (Nat.le_add_right ..) (Nat.le_of_succ_le z1)) (Nb rfl)
  refine rWh ?_
  walk_at "S"
  refine CALL_len_list (xs := S ++ [.ref a]) (two_wa hne) (by rw [List.length_append]; exact Nat.le_trans (Nat.succ_le_succ (Nat.le_trans (Nat.le_add_right ..) (Nat.le_of_succ_le z1))) (Nb rfl)) ?_
  walk_at "S"
  refine if_p (len_gt S _) ?_
  walk_at "S"
  refine METH_pop (two_wa hne) ?_
  walk_at "S"
  refine CALL_pop (two_wa hne) zS ?_
  rw [two_set_wa hne]
  walk_at "S"
  refine METH_append two_fo ?_
  walk_at "S"
  refine CALL_append two_fo (Nat.le_trans z2 (Nb rfl)) ?_
  rw [two_set_fo]
  walk_at "S"
  refine GET_kind hK nd (onT _ _) ?_
  rcases c with ⟨rfl, rfl⟩ | ⟨hkd, m, f, hm⟩
  ·walk_at "S"
   walk_at "S"
   rw [List.reverse_nil, List.append_nil] at k
   exact k _ ⟨p1.set (by walk_at "f"), p2.set (by walk_at "f")⟩
  ·walk_at "S"
   refine if_p (bne_iff_ne.mpr hkd) ?_
   walk_at "S"
   refine METH_extend (two_wa hne) ?_
   walk_at "S"
   refine (inner_nodes_C hK b' (onT _ _) nd f hm fun d hd => ?_).call
   walk_at "S"
   have hL : L.length ≤ 1000000 := Nat.le_trans (Nat.le_trans f.short hm) (Nb rfl)
   refine SLC_rev (xs := L) (Sto.set_self ..) hL fun d2 hd2 => ?_
   walk_at "S"
   refine CALL_extend (keep_new hd2 (keep_new hd (two_wa hne))) (Sto.set_self ..) zS (by rw [List.length_reverse]; exact hL) ?_
   walk_at "S"
   refine RW.sub (fun a_1 o e => ?_) (k _ ⟨p1.set (by walk_at "f"), p2.set (by walk_at "f")⟩)
   rw [← two_set_wa (S := S) hne] at e
   by_cases h1 : a_1 = wa
   ·subst h1; rw [Sto.set_self] at e ⊢; exact e
   ·rw [Sto.set_ne _ _ h1] at e ⊢
    exact keep_new hd2 (keep_new hd e)
 ·rintro ρ ⟨p1, p2⟩
  refine rWh ?_
  walk_at "S"
  refine CALL_len_list (xs := []) (two_wa hne) (Nat.zero_le _) ?_
  walk_at "S"
  refine if_f (RX.sub (two_sub hwa' hne) ?_)
  walk_at "S"
  exact h _ hfo
end
section
theorem up_loop {β γ : Type} {P : Loc → Prop} {J : Nat → β → Prop} {R : Nat → Loc → β → Prop} {xs : List MV} {ys : List γ} {f : β → γ → β} (hl : xs.length = ys.length)
  (step : ∀ i v y ρ s, P ρ → J i s → xs[i]? = some v → ys[i]? = some y → J (i + 1) (f s y) ∧ ((∀ ρ', P ρ' → R (i + 1) ρ' (f s y)) → R i ρ s)) :
  ∀ (k i : Nat) (ρ : Loc) (s : β), i + k = xs.length → P ρ → J i s → (∀ ρ', P ρ' → J xs.length ((ys.drop i).foldl f s) → R xs.length ρ' ((ys.drop i).foldl f s)) → R i ρ s
 | 0, i, ρ, s, e, p, j, k => by
  have hi : i = xs.length := by lia
  have hd : ys.drop i = [] := List.drop_of_length_le (by lia)
  have := k ρ p
  rw [hd, ← hi] at this
  exact this j
 | n + 1, i, ρ, s, e, p, j, k => by
  have q : xs[i]? = some xs[i] := List.getElem?_eq_getElem (by lia)
  have q' : ys[i]? = some ys[i] := List.getElem?_eq_getElem (by lia)
  refine xe02 (step i _ _ ρ s p j q q') fun h1 h2 => ?_
  refine h2 fun ρ' p' => up_loop hl step n (i + 1) ρ' _ (by lia) p' h1 ?_
  have hd : ys.drop i = ys[i] :: ys.drop (i + 1) := List.drop_eq_getElem_cons (by lia)
  rw [hd, List.foldl_cons] at k
  exact k
noncomputable def addOnce (xs : List Str) (x : Str) : List Str := if xs.contains x then xs else xs ++ [x]
theorem addOnce_len (xs : List Str) (x : Str) : (addOnce xs x).length ≤ xs.length + 1 := by unfold addOnce; split <;> simp
noncomputable def addOpt (xs : List Str) (x : Option Str) : List Str := match x with
 | some x => addOnce xs x
 | none => xs
theorem addOpt_len (xs : List Str) (x : Option Str) : (addOpt xs x).length ≤ xs.length + 1 := by cases x; exact Nat.le_succ _; exact addOnce_len ..
inductive VN (Λ : Sto) : MV → Option Str → Prop where
 | other {a p : Addr} {ps : List MV} {kind : Str} : Nd Λ a kind p ps → kind ≠ "Var" → VN Λ (.ref a) none
 | var {a p q t : Addr} {x : Str} {l : MV} : Nd Λ a "Var" p [.ref q] → Λ q = some (.list [.ref t]) → Λ t = some (.tuple [.str x, l]) → VN Λ (.ref a) (some x)
theorem add_once_set {C : Cx} (hK : PK C) {A : Around} {n : Nat} (b : Bud A (n + 1)) {σ : Sto} {a : Addr} {xs : List Str} {x : Str} {Q : MV → Sto → Prop} (hz : xs.length ≤ 1000)
  (h : Q .none (σ.set a (.list ((addOnce xs x).map .str)))) : CALLC C A (.ref 63) [.ref a, .str x] (σ.set a (.list (xs.map .str))) Q := by
 refine add_once_C hK b (Sto.set_self ..) hz ?_
 unfold addOnce at h
 split
 ·rename_i hc; rw [if_pos hc] at h; exact h
 ·rename_i hc
  rw [if_neg hc] at h
  rw [set_set]; exact h
theorem var_names_C {C : Cx} (hK : PK C) {A : Around} {n m : Nat} (b : Bud A (n + 4)) {Λ σ : Sto} (on : On Λ σ) {v : MV} {L R : List MV} {k : Nat} (f : Flat Λ v L m) (hm : m ≤ 1000) (fs : Owns Λ L R k) (hk : k ≤ 500)
  {os : List (Option Str)} (hl : R.length = os.length) (hv : ∀ (i : Nat) (v : MV) (o : Option Str), R[i]? = some v → os[i]? = some o → VN Λ v o) {Q : MV → Sto → Prop}
  (h : ∀ d, σ d = none → Q (.ref d) (σ.set d (.list ((os.foldl addOpt []).map .str)))) : CALLC C A (.ref 70) [v] σ Q := by
 refine runFn hK (f := 70) ["body"] (fun U => rfl) (fun U => rfl) rfl rfl (ar1 fun U => rfl) rfl rfl b fun FF e1 e2 hK b' => ?_
 subst e1 e2
 walk_at "S"
 refine ⟨by simp, fun fo hfo => ?_⟩
 walk_at "S"
 refine (own_nodes_C hK b' (on.new hfo) f hm fs (by lia) fun d hd => ?_).call
 have hdf : d ≠ fo := by rintro rfl; rw [Sto.set_self] at hd; exact sn hd
 have hd' : σ d = none := by rwa [Sto.set_ne _ _ hdf] at hd
 let τ : Sto := σ.set d (.list R)
 have hτ : τ fo = none := by rw [show τ fo = σ fo from Sto.set_ne _ _ (Ne.symm hdf)]; exact hfo
 have e1 : (σ.set fo (.list [])).set d (.list R) = τ.set fo (.list (([] : List Str).map .str)) := set_swap (Ne.symm hdf)
 rw [e1]
 have onT : ∀ X, On Λ (τ.set fo (.list X)) := fun X => (on.new hd').new hτ
 refine ITR_list (keep_new hτ (Sto.set_self ..)) ?_
 have hR := fs.size.2
 refine up_loop (P := fun ρ => LK ρ "found" (.ref fo)) (J := fun i (X : List Str) => X.length ≤ i) (f := addOpt) (R := fun i ρ (X : List Str) => RF _ _ _ _ _ (.list d i) FF ρ (τ.set fo (.list (X.map .str)))) hl (fun i v o ρ X p1 j hi ho => ⟨?_, fun k => ?_⟩) R.length 0 _ [] (Nat.zero_add _) (by rfl) (Nat.le_refl _) ?_
 ·have := addOpt_len X o; lia
 ·have hlt := (Gs hi).1
  refine rFL b'.h (keep_new hτ (Sto.set_self ..)) (fun v' hv' => ?_) (fun hn => by exact sn (hi.symm.trans hn))
  obtain rfl : v' = v := by obtain rfl := si (hi.symm.trans hv'); rfl
  walk_at "a"
  walk_at "S"
  cases hv i _ _ hi ho with
  | other nd hk =>
   refine GET_kind hK nd (onT _) ?_
   walk_at "S"
   refine if_b (fun hc => by simp at hc; exact absurd hc hk) (fun hc => ?_)
   walk_at "S"
   exact k _ (p1.set (by walk_at "f"))
  | var nd e2 e3 =>
   refine GET_kind hK nd (onT _) ?_
   walk_at "S"
   walk_at "S"
   refine GET_parts hK nd (onT _) ?_
   walk_at "S"
   refine SUB_list (onT _ |>.list nd.ps) (by decide) (by decide) rfl ?_
   refine ITR_list (onT _ |>.list e2) ?_
   refine rFL b'.h (onT _ |>.list e2) (fun v' hv' => ?_) (fun hn => by exact sn hn)
   obtain rfl := si hv'
   refine rAT b'.h (onT _ |>.tuple e3) ?_ (by walk_at "=i") (by walk_at "=o")
   walk_at "a"
   walk_at "a"
   walk_at "a"
   walk_at "S"
   refine (add_once_set hK b' (by lia) ?_).call
   walk_at "S"
   refine rFL b'.h (onT _ |>.list e2) (fun v' hv' => by exact nn hv') (fun U => ?_)
   walk_at "S"
   exact k _ (((p1.set (by walk_at "f")).set (by walk_at "f")).set (by walk_at "f"))
 ·intro ρ p1 j
  refine rFL b'.h (keep_new hτ (Sto.set_self ..)) (fun v' hv' => ?_) (fun U => ?_)
  ·exact nn ((List.getElem?_eq_none (Nat.le_refl _)).symm.trans hv')
  refine RX.sub (σ' := σ.set fo (.list ((os.foldl addOpt []).map .str))) (fun a o e => ?_) ?_
  ·by_cases h2 : a = fo
   ·subst h2; rw [Sto.set_self] at e ⊢; exact e
   ·rw [Sto.set_ne _ _ h2] at e ⊢; exact keep_new hd' e
  walk_at "S"
  exact h _ hfo
end
section
inductive FD (Λ : Sto) : MV → Option Str → Prop where
 | other {a p : Addr} {ps : List MV} {kind : Str} : Nd Λ a kind p ps → kind ≠ "Function" → FD Λ (.ref a) none
 | decl {a p : Addr} {x : Str} {u v w : MV} : Nd Λ a "Function" p [.str x, u, v, w, .str "decl"] → FD Λ (.ref a) (some x)
noncomputable def keepD (s : List MV) (y : MV × Option Str) : List MV := match y.2 with
 | some _ => s ++ [y.1]
 | none => s
theorem keepD_len (s : List MV) (y : MV × Option Str) : (keepD s y).length ≤ s.length + 1 := by unfold keepD; split <;> simp
theorem function_decls_C {C : Cx} (hK : PK C) {A : Around} {n : Nat} (b : Bud A (n + 1)) {Λ σ : Sto} (on : On Λ σ) {p : Addr} {xs : List MV} (hb : Λ p = some (.list xs)) (hz : xs.length ≤ 500) {os : List (Option Str)} (hl : xs.length = os.length)
  (hv : ∀ (i : Nat) (v : MV) (o : Option Str), xs[i]? = some v → os[i]? = some o → FD Λ v o) {Q : MV → Sto → Prop} (h : ∀ d, σ d = none → Q (.ref d) (σ.set d (.list ((xs.zip os).foldl keepD [])))) : CALLC C A (.ref 75) [.ref p] σ Q := by
 refine runFn hK (f := 75) ["body"] (fun U => rfl) (fun U => rfl) rfl rfl (ar1 fun U => rfl) rfl rfl b fun FF e1 e2 hK b' => ?_
 subst e1 e2
 walk_at "S"
 walk_at "a"
 walk_at "S"
 refine ITR_list (on.list hb) ⟨rfl, fun acc L hacc => ?_⟩
 refine up_loop (P := fun ρ => True) (J := fun i (X : List MV) => X.length ≤ i) (ys := xs.zip os) (f := keepD) (R := fun i ρ (X : List MV) => RC _ _ _ _ _ _ _ _ acc (.list p i) (FF.at_ _) ρ (σ.set acc (.list X))) (by rw [List.length_zip]; lia)
  (fun i v y ρ X U j hi hy => ⟨?_, fun k => ?_⟩) xs.length 0 _ [] (Nat.zero_add _) trivial (Nat.le_refl _) ?_
 ·have := keepD_len X y; lia
 ·have hlt := (Gs hi).1
  obtain ⟨v', o⟩ := y
  refine xe02 (List.getElem?_zip_eq_some.mp hy) fun h1 h2 => ?_
  obtain rfl : v' = v := by obtain rfl := si (hi.symm.trans h1); rfl
  refine rCLi b'.h (keep_new hacc (on.list hb)) (fun v'' hv'' => ?_) (fun hn => by exact sn (hi.symm.trans hn))
  obtain rfl : v'' = v' := by obtain rfl := si (hi.symm.trans hv''); rfl
  walk_at "a"
  have onA : On Λ (σ.set acc (.list X)) := on.new hacc
  cases hv i _ _ hi h2 with
  | other nd hk =>
   walk_at "S"
   refine GET_kind hK nd onA ?_
   walk_at "S"
   refine if_b (fun hc => by simp at hc; exact absurd hc hk) (fun hc => ?_)
   refine if_f ?_
   exact k _ trivial
  | decl nd =>
   walk_at "S"
   refine GET_kind hK nd onA ?_
   walk_at "S"
   walk_at "S"
   refine GET_parts hK nd onA ?_
   walk_at "S"
   refine SUB_list (onA.list nd.ps) (by decide) (by decide) rfl ?_
   walk_at "S"
   walk_at "S"
   refine ⟨X, Sto.set_self .., by lia, ?_⟩
   rw [set_set]
   exact k _ trivial
 ·intro ρ _ j
  refine rCLi b'.h (keep_new hacc (on.list hb)) (fun v'' hv'' => ?_) (fun hn => ⟨(List.forall_mem_nil _), ?_⟩)
  ·exact nn ((List.getElem?_eq_none (Nat.le_refl _)).symm.trans hv'')
  exact h _ hacc
end
section
noncomputable def DN (Λ : Sto) (v : MV) (x : Str) : Prop := ∃ a p u w z, v = .ref a ∧ Nd Λ a "Function" p [.str x, u, w, z, .str "decl"]
theorem keepD_mem {v : MV} : ∀ {l : List (MV × Option Str)} {s : List MV}, v ∈ l.foldl keepD s → v ∈ s ∨ ∃ x, (v, some x) ∈ l
 | [], s, h => .inl h
 | (w, o) :: r, s, h => by
  rw [List.foldl_cons] at h
  rcases keepD_mem h with h1 | ⟨x, h1⟩
  ·cases o with
   | none => exact .inl h1
   | some x =>
    rcases List.mem_append.mp (show v ∈ s ++ [w] from h1) with h2 | h2
    ·exact .inl h2
    ·rw [List.mem_singleton.mp h2]; exact .inr ⟨x, List.mem_cons_self⟩
  ·exact .inr ⟨x, List.mem_cons_of_mem _ h1⟩
theorem keepD_all : ∀ {l : List (MV × Option Str)} {s : List MV}, (l.foldl keepD s).length ≤ s.length + l.length
 | [], s => Nat.le_refl _
 | y :: r, s => by
  rw [List.foldl_cons, List.length_cons]
  have := keepD_all (l := r) (s := keepD s y)
  have := keepD_len s y
  lia
theorem decls_DN {Λ : Sto} {xs : List MV} {os : List (Option Str)} (hv : ∀ (i : Nat) (v : MV) (o : Option Str), xs[i]? = some v → os[i]? = some o → FD Λ v o) : ∀ v ∈ (xs.zip os).foldl keepD [], ∃ x, DN Λ v x := fun v h => by
 rcases keepD_mem h with h1 | ⟨x, h1⟩
 ·cases h1
 ·refine xe11 (List.getElem?_of_mem h1) fun i hi => ?_
  refine xe02 (List.getElem?_zip_eq_some.mp hi) fun e1 e2 => ?_
  cases hv i _ _ e1 e2 with
  | decl nd => exact ⟨x, _, _, _, _, _, rfl, nd⟩
theorem any_loop {β : Type} {P : Loc → Prop} {J : Nat → β → Prop} {R : Nat → Loc → β → Prop} {xs : List MV}
  (step : ∀ i v ρ s, P ρ → J i s → xs[i]? = some v → (∀ ρ' s', P ρ' → J (i + 1) s' → R (i + 1) ρ' s') → R i ρ s) :
  ∀ (k i : Nat) (ρ : Loc) (s : β), i + k = xs.length → P ρ → J i s → (∀ ρ' s', P ρ' → J xs.length s' → R xs.length ρ' s') → R i ρ s
 | 0, i, ρ, s, e, p, j, k => by
  obtain rfl : i = xs.length := by lia
  exact k ρ s p j
 | n + 1, i, ρ, s, e, p, j, k => step i _ ρ s p j (List.getElem?_eq_getElem (by lia)) fun ρ' s' p' j' => any_loop step n (i + 1) ρ' s' (by lia) p' j' k
theorem drop_DN {Λ : Sto} {ds : List MV} (hds : ∀ v ∈ ds, ∃ x, DN Λ v x) {k j : Nat} {v : MV} (e : (ds.drop k)[j]? = some v) : ∃ x, DN Λ v x := hds v (List.mem_of_mem_drop (List.mem_of_getElem? e))
theorem last_decls_C {C : Cx} (hK : PK C) {A : Around} {n : Nat} (b : Bud A (n + 2)) {Λ σ : Sto} (on : On Λ σ) {p : Addr} {xs : List MV} (hb : Λ p = some (.list xs)) (hz : xs.length ≤ 500) {os : List (Option Str)} (hl : xs.length = os.length)
  (hv : ∀ (i : Nat) (v : MV) (o : Option Str), xs[i]? = some v → os[i]? = some o → FD Λ v o) {Q : MV → Sto → Prop} (h : ∀ d zs, σ d = none → zs.length ≤ 500 → (∀ v ∈ zs, ∃ x, DN Λ v x) → Q (.ref d) (σ.set d (.list zs))) : CALLC C A (.ref 80) [.ref p] σ Q := by
 refine runFn hK (f := 80) ["body"] (fun U => rfl) (fun U => rfl) rfl rfl (ar1 fun U => rfl) rfl rfl b fun FF e1 e2 hK b' => ?_
 subst e1 e2
 walk_at "S"
 refine (function_decls_C hK b' on hb hz hl hv fun fo hfo => ?_).call
 have hds := decls_DN hv
 have hdl : ((xs.zip os).foldl keepD []).length ≤ 500 := by
  have := keepD_all (l := xs.zip os) (s := [])
  rw [List.length_zip] at this
  simp at this
  lia
 generalize (xs.zip os).foldl keepD [] = ds at hds hdl ⊢
 walk_at "S"
 refine ⟨by simp, fun le hle => ?_⟩
 walk_at "S"
 have hlf : le ≠ fo := by rintro rfl; rw [Sto.set_self] at hle; exact sn hle
 have hle' : σ le = none := by rwa [Sto.set_ne _ _ hlf] at hle
 refine CALL_enumerate (keep_new hle (Sto.set_self ..)) fun d it hd hit hne => ⟨d, it, fo, _, rfl, rfl, hd, hit, hne, ?_⟩
 have onL : ∀ X, On Λ ((σ.set fo (.list ds)).set le (.list X)) := fun X => (on.new hfo).new hle
 have foL : ∀ X, ((σ.set fo (.list ds)).set le (.list X)) fo = some (.list ds) := fun X => keep_new hle (Sto.set_self ..)
 refine any_loop (P := fun ρ => LK ρ "found" (.ref fo) ∧ LK ρ "left" (.ref le)) (J := fun i (X : List MV) => X.length ≤ i ∧ ∀ v ∈ X, ∃ x, DN Λ v x) (xs := ds) (R := fun i ρ (X : List MV) => RN _ _ _ _ _ _ _ fo i FF ρ ((σ.set fo (.list ds)).set le (.list X)))
  (fun i v ρ X p j hi k => ?_) ds.length 0 _ [] (Nat.zero_add _) ⟨by rfl, by rfl⟩ ⟨Nat.le_refl _, List.forall_mem_nil _⟩ ?_
 ·refine xe02 p fun p1 p2 => ?_
  refine xe02 j fun j1 j2 => ?_
  have hlt := (Gs hi).1
  refine xe62 (hds v (List.mem_of_getElem? hi)) fun x a q u w z eq6 nd => ?_; obtain rfl := eq6
  refine rFE b'.h (foL X) (fun v' hv' => ?_) (fun hn => by exact sn (hi.symm.trans hn)) (by walk_at "=2") (by walk_at "=o")
  obtain rfl : v' = .ref a := by obtain rfl := si (hi.symm.trans hv'); rfl
  walk_at "a"
  walk_at "a"
  walk_at "a"
  walk_at "S"
  refine GET_parts hK nd (onL X) ?_
  walk_at "S"
  refine SUB_list ((onL X).list nd.ps) (by decide) (by decide) rfl ?_
  walk_at "a"
  walk_at "S"
  refine SLC_drop (k := i + 1) (foL X) (by lia) (by push_cast; rfl) fun dd hdd => ?_
  refine ITR_list (Sto.set_self ..) ⟨rfl, fun acc L hacc => ?_⟩
  have eb : ∀ ys, ((((σ.set fo (.list ds)).set le (.list X)).set dd (.list (ds.drop (i + 1)))).set acc (.list ys)) dd = some (.list (ds.drop (i + 1))) := fun ys => keep_new hacc (Sto.set_self ..)
  have on3 : ∀ ys, On Λ ((((σ.set fo (.list ds)).set le (.list X)).set dd (.list (ds.drop (i + 1)))).set acc (.list ys)) := fun ys => ((onL X).new hdd).new hacc
  refine any_loop (P := fun U => True) (J := fun i (ys : List Str) => ys.length ≤ i) (xs := ds.drop (i + 1)) (R := fun i' ρ (ys : List Str) => RC _ _ _ _ _ _ _ _ acc (.list dd i') (FF.at_ _) ρ ((((σ.set fo (.list ds)).set le (.list X)).set dd (.list (ds.drop (i + 1)))).set acc (.list (ys.map .str))))
   (fun i' v2 ρ2 ys U j' hi' k' => ?_) _ 0 _ [] (Nat.zero_add _) trivial (Nat.le_refl _) ?_
  ·have hlt' := (Gs hi').1
   rw [List.length_drop] at hlt'
   refine xe62 (drop_DN hds hi') fun x2 a2 q2 u2 w2 z2 eq6 nd2 => ?_; obtain rfl := eq6
   refine rCL b'.h (eb _) (fun v' hv' => ?_) (fun hn => by exact sn (hi'.symm.trans hn))
   obtain rfl : v' = .ref a2 := by obtain rfl := si (hi'.symm.trans hv'); rfl
   walk_at "a"
   walk_at "S"
   refine GET_parts hK nd2 (on3 _) ?_
   walk_at "S"
   refine SUB_list ((on3 _).list nd2.ps) (by decide) (by decide) rfl ?_
   refine ⟨ys.map .str, Sto.set_self .., by rw [List.length_map]; lia, ?_⟩
   rw [set_set, show ys.map MV.str ++ [.str x2] = (ys ++ [x2]).map .str by simp]
   exact k' _ _ trivial (by rw [List.length_append, List.length_singleton]; lia)
  ·intro ρ2 ys _ j'
   refine rCL b'.h (eb _) (fun v' hv' => ?_) (fun hn => ⟨(List.forall_mem_nil _), ?_⟩)
   ·exact nn ((List.getElem?_eq_none (Nat.le_refl _)).symm.trans hv')
   refine CMP_notin_strs (Sto.set_self ..) ?_
   walk_at "S"
   refine if_b (fun hc => ?_) (fun hc => ?_)
   ·walk_at "S"
    refine METH_append (keep_new hacc (keep_new hdd (Sto.set_self ..))) ?_
    walk_at "S"
    refine CALL_append (keep_new hacc (keep_new hdd (Sto.set_self ..))) (by lia) ?_
    walk_at "S"
    refine RN.sub (fun a' o e => ?_) (k _ (X ++ [.ref a]) ⟨(p1.set (by walk_at "f")).set (by walk_at "f"), (p2.set (by walk_at "f")).set (by walk_at "f")⟩ ⟨by rw [List.length_append, List.length_singleton]; lia, fun v hv => ?_⟩)
    ·by_cases h1 : a' = le
     ·subst h1; rw [Sto.set_self] at e ⊢; exact e
     ·rw [Sto.set_ne _ _ h1] at e ⊢
      exact keep_new hacc (keep_new hdd (by rw [Sto.set_ne _ _ h1]; exact e))
    ·rcases List.mem_append.mp hv with h1 | h1
     ·exact j2 v h1
     ·rw [List.mem_singleton.mp h1]; exact ⟨x, a, q, u, w, z, rfl, nd⟩
   ·walk_at "S"
    exact RN.sub (fun a' o e => keep_new hacc (keep_new hdd e)) (k _ X ⟨(p1.set (by walk_at "f")).set (by walk_at "f"), (p2.set (by walk_at "f")).set (by walk_at "f")⟩ ⟨by lia, j2⟩)
 ·rintro ρ X ⟨p1, p2⟩ ⟨j1, j2⟩
  refine rFE b'.h (foL X) (fun v' hv' => ?_) (fun hn => ?_) (by walk_at "=2") (by walk_at "=o")
  ·exact nn ((List.getElem?_eq_none (Nat.le_refl _)).symm.trans hv')
  refine RX.sub (σ' := σ.set le (.list X)) (fun a' o e => ?_) ?_
  ·by_cases h1 : a' = le
   ·subst h1; rw [Sto.set_self] at e ⊢; exact e
   ·rw [Sto.set_ne _ _ h1] at e ⊢
    exact keep_new hfo e
  walk_at "S"
  exact h _ X hle' (by lia) j2
end
section
theorem CALLC.weak {C : Cx} {A : Around} {f : MV} {args : List MV} {σ : Sto} {Q : MV → Sto → Prop} (h : CALLC C A f args σ fun v σ' => ∃ σ'', (∀ a o, σ'' a = some o → σ' a = some o) ∧ Q v σ'') : CALLC C A f args σ Q := fun fv vs e1 e2 η s g =>
 codeAny_mono (h fv vs e1 e2 η s g) fun r s' q => by
  rcases r with e | (_ | _ | _ | v) <;> first | exact q | exact q.elim | exact ⟨_, q.choose_spec.1.sub q.choose_spec.2.choose_spec.1 (fun U U e => e), q.choose_spec.2.choose_spec.2⟩
theorem foldl_snoc {α β : Type} (f : α → β) : ∀ (l : List α) (s : List β), l.foldl (fun b o => b ++ [f o]) s = s ++ l.map f
 | [], s => by simp
 | x :: r, s => by rw [List.foldl_cons, foldl_snoc f r]; simp
inductive NN (Λ : Sto) : MV → Option Str → Prop where
 | other {a p : Addr} {ps : List MV} {kind : Str} : Nd Λ a kind p ps → kind ≠ "Name" → NN Λ (.ref a) none
 | name {a p : Addr} {x : Str} : Nd Λ a "Name" p [.str x] → NN Λ (.ref a) (some x)
theorem named_in_C {C : Cx} (hK : PK C) {A : Around} {n m : Nat} (b : Bud A (n + 4)) {Λ σ : Sto} (on : On Λ σ) {v : MV} {L R : List MV} {k : Nat} (f : Flat Λ v L m) (hm : m ≤ 1000) (fs : Owns Λ L R k) (hk : k ≤ 500)
  {os : List (Option Str)} (hl : R.length = os.length) (hv : ∀ (i : Nat) (v : MV) (o : Option Str), R[i]? = some v → os[i]? = some o → NN Λ v o) {x : Str} {Q : MV → Sto → Prop}
  (h : Q (.bool (os.any fun o => o == some x)) σ) : CALLC C A (.ref 85) [v, .str x] σ Q := by
 refine CALLC.weak ?_
 refine runFnQ hK (f := 85) ["body", "name"] (fun U => rfl) (fun U => rfl) rfl rfl (ar2 fun U U => rfl) rfl rfl b fun FF e1 eQ hK b' => ?_
 subst e1
 walk_at "S"
 walk_at "a"
 walk_at "S"
 refine (own_nodes_C hK b' on f hm fs (by lia) fun d hd => ?_).call
 refine ITR_list (Sto.set_self ..) ⟨rfl, fun acc L hacc => ?_⟩
 have hR := fs.size.2
 have ed : ∀ ys, ((σ.set d (.list R)).set acc (.list ys)) d = some (.list R) := fun ys => keep_new hacc (Sto.set_self ..)
 have on2 : ∀ ys, On Λ ((σ.set d (.list R)).set acc (.list ys)) := fun ys => (on.new hd).new hacc
 refine up_loop (P := fun ρ => LK ρ "name" (.str x)) (J := fun i (bs : List Bool) => bs.length ≤ i) (ys := os) (f := fun bs o => bs ++ [o == some x]) (R := fun i ρ (bs : List Bool) => RC _ _ _ _ _ _ _ _ acc (.list d i) (FF.at_ _) ρ ((σ.set d (.list R)).set acc (.list (bs.map .bool)))) hl
  (fun i v o ρ bs p j hi ho => ⟨by rw [List.length_append, List.length_singleton]; lia, fun k => ?_⟩) R.length 0 _ [] (Nat.zero_add _) (by rfl) (Nat.le_refl _) ?_
 ·have hlt := (Gs hi).1
  refine rCL b'.h (ed _) (fun v' hv' => ?_) (fun hn => by exact sn (hi.symm.trans hn))
  obtain rfl : v' = v := by obtain rfl := si (hi.symm.trans hv'); rfl
  walk_at "a"
  cases hv i _ _ hi ho with
  | other nd hk =>
   walk_at "S"
   refine GET_kind hK nd (on2 _) ?_
   walk_at "S"
   refine if_b (fun hc => by simp at hc; exact absurd hc hk) (fun hc => ?_)
   refine ⟨bs.map .bool, Sto.set_self .., by rw [List.length_map]; lia, ?_⟩
   rw [set_set, hc, show bs.map MV.bool ++ [.bool false] = (bs ++ [(none : Option Str) == some x]).map .bool by simp]
   exact k _ (p.set (by walk_at "f"))
  | name nd =>
   rename_i x2
   walk_at "S"
   refine GET_kind hK nd (on2 _) ?_
   walk_at "S"
   walk_at "S"
   refine GET_parts hK nd (on2 _) ?_
   walk_at "S"
   refine SUB_list ((on2 _).list nd.ps) (by decide) (by decide) rfl ?_
   walk_at "S"
   refine ⟨bs.map .bool, Sto.set_self .., by rw [List.length_map]; lia, ?_⟩
   rw [set_set, show bs.map MV.bool ++ [.bool (x2 == x)] = (bs ++ [(some x2 : Option Str) == some x]).map .bool by simp]
   exact k _ (p.set (by walk_at "f"))
 ·intro ρ p j
  refine rCL b'.h (ed _) (fun v' hv' => ?_) (fun hn => ⟨fun q hq => ?_, ?_⟩)
  ·exact nn ((List.getElem?_eq_none (Nat.le_refl _)).symm.trans hv')
  ·have hq' : q ∈ [(Str.ofString "name", FF.L + 1)] := hq
   rw [List.mem_singleton.mp hq']
   exact p
  walk_at "S"
  refine CALL_any (bs := os.foldl (fun bs o => bs ++ [o == some x]) []) b'.h (Sto.set_self ..) ?_
  refine eQ _ _ ⟨σ, fun a o e => keep_new hacc (keep_new hd e), ?_⟩
  rw [foldl_snoc, List.nil_append, List.any_map]
  exact h
end
section
structure Body (Λ : Sto) (p : Addr) (ds vs ns : List (Option Str)) : Prop where
 ex : ∃ (xs L R : List MV) (m k : Nat), Λ p = some (.list xs) ∧ xs.length ≤ 500 ∧ xs.length = ds.length ∧ (∀ (i : Nat) (v : MV) (o : Option Str), xs[i]? = some v → ds[i]? = some o → FD Λ v o) ∧
  Flat Λ (.ref p) L m ∧ m ≤ 1000 ∧ Owns Λ L R k ∧ k ≤ 500 ∧ R.length = vs.length ∧ (∀ (i : Nat) (v : MV) (o : Option Str), R[i]? = some v → vs[i]? = some o → VN Λ v o) ∧
  R.length = ns.length ∧ (∀ (i : Nat) (v : MV) (o : Option Str), R[i]? = some v → ns[i]? = some o → NN Λ v o)
noncomputable def declNames (ds : List (Option Str)) : List Str := ds.filterMap id
noncomputable def varNames (vs : List (Option Str)) : List Str := vs.foldl addOpt []
noncomputable def readsName (ns : List (Option Str)) (x : Str) : Bool := ns.any fun o => o == some x
noncomputable def needsArgs (ps : List Str) (ds vs ns : List (Option Str)) : Bool := !(ps.contains "arguments" || (declNames ds).contains "arguments") && (readsName ns "arguments" || (varNames vs).contains "arguments")
theorem keepD_pairs : ∀ (xs : List MV) (os : List (Option Str)) (s : List MV), xs.length = os.length → ∃ ps : List (MV × Str), (xs.zip os).foldl keepD s = s ++ ps.map (·.1) ∧ ps.map (·.2) = os.filterMap id ∧ ∀ q ∈ ps, ∃ i : Nat, xs[i]? = some q.1 ∧ os[i]? = some (some q.2)
 | [], [], s, _ => ⟨[], by simp, rfl, (List.forall_mem_nil _)⟩
 | x :: xs, o :: os, s, hl => by
  refine xe13 (keepD_pairs xs os (keepD s (x, o)) (by simpa using hl)) fun ps h1 h2 h3 => ?_
  cases o with
  | none => exact ⟨ps, by rw [List.zip_cons_cons, List.foldl_cons, h1]; rfl, by rw [h2]; rfl, fun q hq => by refine xe11 (h3 q hq) fun i e => ?_; exact ⟨i + 1, e⟩⟩
  | some y =>
   refine ⟨(x, y) :: ps, by rw [List.zip_cons_cons, List.foldl_cons, h1]; show (s ++ [x]) ++ _ = _; simp, by rw [List.map_cons, h2]; rfl, fun q hq => ?_⟩
   rcases List.mem_cons.mp hq with rfl | hq
   ·exact ⟨0, rfl, rfl⟩
   ·refine xe11 (h3 q hq) fun i e => ?_; exact ⟨i + 1, e⟩
section
variable {C : Cx} (hK : PK C) {A : Around} {n : Nat} {Λ σ : Sto} {p : Addr} {ds vs ns : List (Option Str)}
include hK
theorem decls_C (b : Bud A (n + 1)) (on : On Λ σ) (bd : Body Λ p ds vs ns) {Q : MV → Sto → Prop}
  (h : ∀ d (ps : List (MV × Str)), σ d = none → ps.length ≤ 500 → ps.map (·.2) = declNames ds → (∀ q ∈ ps, DN Λ q.1 q.2) → Q (.ref d) (σ.set d (.list (ps.map (·.1))))) : CALLC C A (.ref 75) [.ref p] σ Q := by
 refine xe55 bd.ex fun xs L R m k e1 e2 e3 e4 U => ?_
 refine function_decls_C hK b on e1 e2 e3 e4 fun d hd => ?_
 refine xe13 (keepD_pairs xs ds [] e3) fun ps h1 h2 h3 => ?_
 have hl : ps.length ≤ 500 := by
  have : (ps.map (·.2)).length ≤ ds.length := by rw [h2]; exact List.length_filterMap_le _ _
  rw [List.length_map] at this
  lia
 rw [h1, List.nil_append]
 refine h d ps hd hl h2 fun q hq => ?_
 refine xe12 (h3 q hq) fun i q1 q2 => ?_
 cases q0 : q.1 with
 | ref a =>
  rw [q0] at q1
  have := e4 i _ _ q1 q2
  cases this with
  | decl nd => exact ⟨_, _, _, _, _, rfl, nd⟩
 | _ => rw [q0] at q1; have := e4 i _ _ q1 q2; cases this
theorem named_C (b : Bud A (n + 4)) (on : On Λ σ) (bd : Body Λ p ds vs ns) {x : Str} {Q : MV → Sto → Prop} (h : Q (.bool (readsName ns x)) σ) : CALLC C A (.ref 85) [.ref p, .str x] σ Q := by
 obtain ⟨xs, L, R, m, k, e1, e2, e3, e4, e5, e6, e7, e8, e9, e10, e11, e12⟩ := bd.ex
 exact named_in_C hK b on e5 e6 e7 e8 e11 e12 h
theorem vars_C (b : Bud A (n + 4)) (on : On Λ σ) (bd : Body Λ p ds vs ns) {Q : MV → Sto → Prop} (h : ∀ d, σ d = none → Q (.ref d) (σ.set d (.list ((varNames vs).map .str)))) : CALLC C A (.ref 70) [.ref p] σ Q := by
 obtain ⟨xs, L, R, m, k, e1, e2, e3, e4, e5, e6, e7, e8, e9, e10, e11, e12⟩ := bd.ex
 exact var_names_C hK b on e5 e6 e7 e8 e9 e10 h
theorem needs_C (b : Bud A (n + 5)) (on : On Λ σ) (bd : Body Λ p ds vs ns) {pp : Addr} {ps : List Str} (e : σ pp = some (.list (ps.map .str))) {Q : MV → Sto → Prop} (h : Q (.bool (needsArgs ps ds vs ns)) σ) : CALLC C A (.ref 90) [.ref pp, .ref p] σ Q := by
 refine CALLC.weak ?_
 refine runFnQ hK (f := 90) ["params", "body"] (fun U => rfl) (fun U => rfl) rfl rfl (ar2 fun U U => rfl) rfl rfl b fun FF e1 eQ hK b' => ?_
 subst e1
 walk_at "S"
 refine CMP_in_strs e ?_
 walk_at "S"
 unfold needsArgs at h
 refine if_b (fun hc => ?_) (fun hc => ?_)
 ·refine if_t ?_
  walk_at "S"
  refine eQ _ _ ⟨σ, fun U U e => e, ?_⟩
  rw [hc] at h
  exact h
 walk_at "S"
 walk_at "a"
 walk_at "S"
 refine (decls_C hK (n := n + 3) b' on bd fun d qs hd hq1 hq2 hq3 => ?_).call
 refine ITR_list (Sto.set_self ..) ⟨rfl, fun acc L hacc => ?_⟩
 have ed : ∀ ys, ((σ.set d (.list (qs.map (·.1)))).set acc (.list ys)) d = some (.list (qs.map (·.1))) := fun ys => keep_new hacc (Sto.set_self ..)
 have on2 : ∀ ys, On Λ ((σ.set d (.list (qs.map (·.1)))).set acc (.list ys)) := fun ys => (on.new hd).new hacc
 refine up_loop (P := fun ρ => True) (J := fun i (ys : List Str) => ys.length ≤ i) (ys := qs) (f := fun ys q => ys ++ [q.2]) (R := fun i ρ (ys : List Str) => RC _ _ _ _ _ _ _ _ acc (.list d i) (FF.at_ _) ρ ((σ.set d (.list (qs.map (·.1)))).set acc (.list (ys.map .str)))) (List.length_map ..)
  (fun i v q ρ ys U j hi ho => ⟨by rw [List.length_append, List.length_singleton]; lia, fun k => ?_⟩) (qs.map (·.1)).length 0 _ [] (Nat.zero_add _) trivial (Nat.le_refl _) ?_
 ·have hlt := (Gs hi).1
  rw [List.length_map] at hlt
  refine rCL b'.h (ed _) (fun v' hv' => ?_) (fun hn => by exact sn (hi.symm.trans hn))
  refine xe52 (hq3 q (List.mem_of_getElem? ho)) fun a q' u w z e0 nd => ?_
  have hv : v' = .ref a := by
   rw [List.getElem?_map, ho] at hv'
   rw [← e0]; exact (Option.some.inj hv').symm
  subst hv
  walk_at "a"
  walk_at "S"
  refine GET_parts hK nd (on2 _) ?_
  walk_at "S"
  refine SUB_list ((on2 _).list nd.ps) (by decide) (by decide) rfl ?_
  refine ⟨ys.map .str, Sto.set_self .., by rw [List.length_map]; lia, ?_⟩
  rw [set_set, show ys.map MV.str ++ [.str q.2] = (ys ++ [q.2]).map .str by simp]
  exact k _ trivial
 ·intro ρ _ j
  refine rCL b'.h (ed _) (fun v' hv' => ?_) (fun hn => ⟨(List.forall_mem_nil _), ?_⟩)
  ·exact nn ((List.getElem?_eq_none (Nat.le_refl _)).symm.trans hv')
  rw [foldl_snoc (fun q : MV × Str => q.2), List.nil_append, List.drop_zero, hq2]
  refine CMP_in_strs (Sto.set_self ..) ?_
  walk_at "S"
  refine if_b (fun hc2 => ?_) (fun hc2 => ?_)
  ·refine if_t ?_
   walk_at "S"
   refine eQ _ _ ⟨σ, fun a o e => keep_new hacc (keep_new hd e), ?_⟩
   rw [hc, hc2] at h
   exact h
  walk_at "S"
  have onZ : On Λ ((σ.set d (.list (qs.map (·.1)))).set acc (.list ((declNames ds).map .str))) := on2 _
  have sub : ∀ a o, σ a = some o → ((σ.set d (.list (qs.map (·.1)))).set acc (.list ((declNames ds).map .str))) a = some o := fun a o e => keep_new hacc (keep_new hd e)
  generalize (σ.set d (.list (qs.map (·.1)))).set acc (.list ((declNames ds).map .str)) = τ at onZ sub ⊢
  refine (named_C hK b' onZ bd ?_).call
  rw [hc, hc2] at h
  simp only [Bool.or_false, Bool.not_false, Bool.true_and] at h
  refine TRU_bool ?_
  refine if_b (fun hc3 => ?_) (fun hc3 => ?_)
  ·rw [hc3, Bool.true_or] at h
   rw [hc3]
   exact eQ _ _ ⟨σ, sub, h⟩
  rw [hc3, Bool.false_or] at h
  walk_at "S"
  refine (vars_C hK b' onZ bd fun d2 hd2 => ?_).call
  refine CMP_in_strs (Sto.set_self ..) ?_
  exact eQ _ _ ⟨σ, fun a o e => keep_new hd2 (sub a o e), h⟩
end
end
section
noncomputable def bindNames (ps : List Str) (ds vs ns : List (Option Str)) : List Str :=
 (varNames vs).foldl addOnce (if needsArgs ps ds vs ns then addOnce ((declNames ds).foldl addOnce (ps.foldl addOnce [])) "arguments" else (declNames ds).foldl addOnce (ps.foldl addOnce []))
theorem addAll_len : ∀ (l s : List Str), (l.foldl addOnce s).length ≤ s.length + l.length
 | [], s => Nat.le_refl _
 | x :: r, s => by
  rw [List.foldl_cons, List.length_cons]
  have := addAll_len r (addOnce s x)
  have := addOnce_len s x
  lia
theorem addOpts_len : ∀ (l : List (Option Str)) (s : List Str), (l.foldl addOpt s).length ≤ s.length + l.length
 | [], s => Nat.le_refl _
 | x :: r, s => by
  rw [List.foldl_cons, List.length_cons]
  have := addOpts_len r (addOpt s x)
  have := addOpt_len s x
  lia
section
variable {C : Cx} (hK : PK C) {A : Around} {n : Nat} {Λ σ : Sto} {p : Addr} {ds vs ns : List (Option Str)}
include hK
theorem binding_names_C (b : Bud A (n + 6)) (on : On Λ σ) (bd : Body Λ p ds vs ns) {pp : Addr} {ps : List Str} (e : σ pp = some (.list (ps.map .str))) (hp : ps.length ≤ 10) (hv : vs.length ≤ 300) (hdl : ds.length ≤ 300) {Q : MV → Sto → Prop} (h : ∀ d, σ d = none → Q (.ref d) (σ.set d (.list ((bindNames ps ds vs ns).map .str)))) : CALLC C A (.ref 97) [.ref pp, .ref p] σ Q := by
 refine CALLC.weak ?_
 refine runFnQ hK (f := 97) ["params", "body"] (fun U => rfl) (fun U => rfl) rfl rfl (ar2 fun U U => rfl) rfl rfl b fun FF e1 eQ hK b' => ?_
 subst e1
 walk_at "S"
 refine ⟨by simp, fun fo hfo => ?_⟩
 walk_at "S"
 have hpf : pp ≠ fo := by rintro rfl; exact nn (hfo.symm.trans e)
 have e' : ∀ zs, (σ.set fo (.list zs)) pp = some (.list (ps.map .str)) := fun zs => keep_new hfo e
 refine ITR_list (e' _) ?_
 have hb2 : Bud FF.A (n + 5) := b'
 refine up_loop (P := fun ρ => LK ρ "found" (.ref fo) ∧ LK ρ "params" (.ref pp) ∧ LK ρ "body" (.ref p)) (J := fun i (X : List Str) => X.length ≤ i) (ys := ps) (f := addOnce) (R := fun i ρ (X : List Str) => RF _ _ _ _ _ (.list pp i) FF ρ (σ.set fo (.list (X.map .str)))) (List.length_map ..)
  (fun i v y ρ X p1 j hi ho => ⟨by have := addOnce_len X y; lia, fun k => ?_⟩) (ps.map MV.str).length 0 _ [] (Nat.zero_add _) ⟨by rfl, by rfl, by rfl⟩ (Nat.le_refl _) ?_
 ·refine xe03 p1 fun p1 p2 p3 => ?_
  have hlt := (Gs ho).1
  refine rFL b'.h (e' _) (fun v' hv' => ?_) (fun hn => by exact sn (hi.symm.trans hn))
  obtain rfl : v' = .str y := by rw [List.getElem?_map, ho] at hv'; obtain rfl := si hv'; rfl
  walk_at "a"
  walk_at "S"
  refine (add_once_set hK b' (by lia) ?_).call
  walk_at "S"
  exact k _ ⟨p1.set (by walk_at "f"), p2.set (by walk_at "f"), p3.set (by walk_at "f")⟩
 rintro ρ ⟨p1, p2, p3⟩ j1
 refine rFL b'.h (e' _) (fun v' hv' => ?_) (fun U => ?_)
 ·exact nn ((List.getElem?_eq_none (Nat.le_refl _)).symm.trans hv')
 rw [List.drop_zero]
 rw [List.length_map] at j1
 rw [List.drop_zero] at j1
 generalize hX1 : ps.foldl addOnce [] = X1 at j1 ⊢
 walk_at "S"
 refine (decls_C hK (n := n + 4) b' (on.new hfo) bd fun d qs hd hq1 hq2 hq3 => ?_).call
 have hdf : d ≠ fo := by rintro rfl; rw [Sto.set_self] at hd; exact sn hd
 have hd0 : σ d = none := by rwa [Sto.set_ne _ _ hdf] at hd
 rw [set_swap (Ne.symm hdf)]
 have hτ : (σ.set d (.list (qs.map (·.1)))) fo = none := by rw [Sto.set_ne _ _ (Ne.symm hdf)]; exact hfo
 have ed : ∀ zs, ((σ.set d (.list (qs.map (·.1)))).set fo (.list zs)) d = some (.list (qs.map (·.1))) := fun zs => keep_new hτ (Sto.set_self ..)
 have onD : ∀ zs, On Λ ((σ.set d (.list (qs.map (·.1)))).set fo (.list zs)) := fun zs => (on.new hd0).new hτ
 refine ITR_list (ed _) ?_
 refine up_loop (P := fun ρ => LK ρ "found" (.ref fo) ∧ LK ρ "params" (.ref pp) ∧ LK ρ "body" (.ref p)) (J := fun i (X : List Str) => X.length ≤ i + 10) (ys := qs) (f := fun X q => addOnce X q.2) (R := fun i ρ (X : List Str) => RF _ _ _ _ _ (.list d i) FF ρ ((σ.set d (.list (qs.map (·.1)))).set fo (.list (X.map .str)))) (List.length_map ..)
  (fun i v q ρ X p1 j hi ho => ⟨by have := addOnce_len X q.2; lia, fun k => ?_⟩) (qs.map (·.1)).length 0 ρ X1 (Nat.zero_add _) ⟨p1, p2, p3⟩ (by lia) ?_
 ·refine xe03 p1 fun p1 p2 p3 => ?_
  have hlt := (Gs ho).1
  refine rFL b'.h (ed _) (fun v' hv' => ?_) (fun hn => by exact sn (hi.symm.trans hn))
  refine xe52 (hq3 q (List.mem_of_getElem? ho)) fun a q' u w z e0 nd => ?_
  obtain rfl : v' = .ref a := by
   rw [List.getElem?_map, ho] at hv'
   rw [← e0]; exact (Option.some.inj hv').symm
  walk_at "a"
  walk_at "S"
  refine GET_parts hK nd (onD _) ?_
  walk_at "S"
  refine SUB_list ((onD _).list nd.ps) (by decide) (by decide) rfl ?_
  walk_at "S"
  refine (add_once_set hK b' (by lia) ?_).call
  walk_at "S"
  exact k _ ⟨p1.set (by walk_at "f"), p2.set (by walk_at "f"), p3.set (by walk_at "f")⟩
 clear p1 p2 p3
 rintro ρ ⟨p1, p2, p3⟩ j2
 refine rFL b'.h (ed _) (fun v' hv' => ?_) (fun U => ?_)
 ·exact nn ((List.getElem?_eq_none (Nat.le_refl _)).symm.trans hv')
 rw [List.drop_zero, List.length_map] at j2
 rw [List.drop_zero]
 have hq : qs.foldl (fun X q => addOnce X q.2) X1 = (declNames ds).foldl addOnce X1 := by rw [← hq2, List.foldl_map]
 rw [hq] at j2 ⊢
 generalize hX2 : (declNames ds).foldl addOnce X1 = X2 at j2 ⊢
 refine RX.sub (σ' := σ.set fo (.list (X2.map .str))) (fun a o ea => ?_) ?_
 ·by_cases h1 : a = fo
  ·subst h1; rw [Sto.set_self] at ea ⊢; exact ea
  ·rw [Sto.set_ne _ _ h1] at ea ⊢; exact keep_new hd0 ea
 refine rNil ?_
 refine rIfC (fun ρ' σ' => (LK ρ' "found" (.ref fo) ∧ LK ρ' "params" (.ref pp) ∧ LK ρ' "body" (.ref p)) ∧ σ' = σ.set fo (.list ((if needsArgs ps ds vs ns then addOnce X2 "arguments" else X2).map .str))) ?_ ?_
 ·walk_at "S"
  refine (needs_C hK (n := n) b' (on.new hfo) bd (e' _) ?_).call
  refine TRU_bool ?_
  refine if_b (fun hc => ?_) (fun hc => ?_)
  ·walk_at "S"
   refine (add_once_set hK (n := n + 4) b' (by lia) ?_).call
   rw [hc]
   walk_at "S"
   exact ⟨rfl, ⟨p1, p2, p3⟩, rfl⟩
  ·walk_at "S"
   rw [hc]
   exact ⟨rfl, ⟨p1, p2, p3⟩, rfl⟩
 clear p1 p2 p3
 rintro ρ' σ' ⟨⟨p1, p2, p3⟩, rfl⟩
 have hX3 : (if needsArgs ps ds vs ns then addOnce X2 "arguments" else X2).length ≤ X2.length + 1 := by
  split
  ·exact addOnce_len ..
  ·exact Nat.le_succ _
 have hN : bindNames ps ds vs ns = (varNames vs).foldl addOnce (if needsArgs ps ds vs ns then addOnce X2 "arguments" else X2) := by unfold bindNames; rw [hX1, hX2]
 generalize (if needsArgs ps ds vs ns then addOnce X2 "arguments" else X2) = X3 at hX3 hN ⊢
 have hdn : (declNames ds).length ≤ ds.length := List.length_filterMap_le _ _
 have hj2 : X2.length ≤ 320 := by
  have := addAll_len (declNames ds) X1
  rw [hX2] at this
  lia
 have hvn : (varNames vs).length ≤ 300 := by
  have := addOpts_len vs []
  simp at this
  exact Nat.le_trans this hv
 walk_at "S"
 refine (vars_C hK (n := n + 1) b' (on.new hfo) bd fun d2 hd2 => ?_).call
 have hdf2 : d2 ≠ fo := by rintro rfl; rw [Sto.set_self] at hd2; exact sn hd2
 have hd3 : σ d2 = none := by rwa [Sto.set_ne _ _ hdf2] at hd2
 rw [set_swap (Ne.symm hdf2)]
 have hτ2 : (σ.set d2 (.list ((varNames vs).map .str))) fo = none := by rw [Sto.set_ne _ _ (Ne.symm hdf2)]; exact hfo
 have ed2 : ∀ zs, ((σ.set d2 (.list ((varNames vs).map .str))).set fo (.list zs)) d2 = some (.list ((varNames vs).map .str)) := fun zs => keep_new hτ2 (Sto.set_self ..)
 refine ITR_list (ed2 _) ?_
 refine up_loop (P := fun ρ => LK ρ "found" (.ref fo)) (J := fun i (X : List Str) => X.length ≤ i + 330) (ys := varNames vs) (f := addOnce) (R := fun i ρ (X : List Str) => RF _ _ _ _ _ (.list d2 i) FF ρ ((σ.set d2 (.list ((varNames vs).map .str))).set fo (.list (X.map .str)))) (List.length_map ..)
  (fun i v y ρ X p1 j hi ho => ⟨by have := addOnce_len X y; lia, fun k => ?_⟩) ((varNames vs).map MV.str).length 0 ρ' X3 (Nat.zero_add _) p1 (by lia) ?_
 ·have hlt := (Gs ho).1
  refine rFL b'.h (ed2 _) (fun v' hv' => ?_) (fun hn => by exact sn (hi.symm.trans hn))
  obtain rfl : v' = .str y := by rw [List.getElem?_map, ho] at hv'; obtain rfl := si hv'; rfl
  walk_at "a"
  walk_at "S"
  refine (add_once_set hK b' (by lia) ?_).call
  walk_at "S"
  exact k _ (p1.set (by walk_at "f"))
 rintro ρ4 p4 j4
 refine rFL b'.h (ed2 _) (fun v' hv' => ?_) (fun U => ?_)
 ·exact nn ((List.getElem?_eq_none (Nat.le_refl _)).symm.trans hv')
 walk_at "S"
 refine eQ _ _ ⟨σ.set fo (.list ((bindNames ps ds vs ns).map .str)), fun a o ea => ?_, h _ hfo⟩
 rw [hN] at ea
 by_cases h1 : a = fo
 ·subst h1; rw [Sto.set_self] at ea ⊢; exact ea
 ·rw [Sto.set_ne _ _ h1] at ea ⊢; exact keep_new hd3 ea
end
end
section
theorem setL_le {l : Loc} {x : Str} {v : MV} {n : Nat} (h : l.length ≤ n) : (setL l x v).length ≤ n + 1 := by rw [setL_length]; split <;> lia
noncomputable def bindFs (x sort : Str) : Loc := [("name", .str x), ("sort", .str sort), ("is_captured", .bool false), ("place", .none)]
noncomputable def nodeFs (k : Str) (l p : MV) : Loc := [("kind", .str k), ("line", l), ("parts", p), ("scope", .none)]
section
variable (P : Params)
theorem mkB : makesIn (KF P) 114 = true := by kernel_rfl
theorem mkN : makesIn (KF P) 31 = true := by kernel_rfl
theorem mkS : makesIn (KF P) 184 = true := by kernel_rfl
theorem mkC : makesIn (KF P) 233 = true := by kernel_rfl
theorem inB : findIn (KF P) (.ref 114) "__init__" = some (some (.ref 111)) := by kernel_rfl
theorem inN : findIn (KF P) (.ref 31) "__init__" = some (some (.ref 28)) := by kernel_rfl
theorem inS : findIn (KF P) (.ref 184) "__init__" = some (some (.ref 130)) := by kernel_rfl
theorem inC : findIn (KF P) (.ref 233) "__init__" = some (some (.ref 202)) := by kernel_rfl
theorem tyB : typeIn (KF P) (.ref 111) = some (.type "function") := by kernel_rfl
theorem tyN : typeIn (KF P) (.ref 28) = some (.type "function") := by kernel_rfl
theorem tyS : typeIn (KF P) (.ref 130) = some (.type "function") := by kernel_rfl
theorem tyC : typeIn (KF P) (.ref 202) = some (.type "function") := by kernel_rfl
end
section
variable {C : Cx} (hK : PK C) {A : Around} {n : Nat} {σ : Sto}
include hK
theorem Binding_new (b : Bud A (n + 2)) {x sort : Str} {Q : MV → Sto → Prop} (h : ∀ d, σ d = none → Q (.ref d) (σ.set d (.inst 114 (bindFs x sort)))) : CALL C A (.ref 114) [.str x, .str sort] σ Q := by
 refine CALL_make (hK ▸ mkB _) (hK ▸ inB _) (hK ▸ tyB _) b fun d A' hd b' => ?_
 refine runFnQ hK (f := 111) ["self", "name", "sort"] (fun U => rfl) (fun U => rfl) rfl rfl (ar3 fun U U U => rfl) rfl rfl b' fun FF e1 eQ hK b' => ?_
 subst e1
 walk_at "S"
 refine SETA_own (Sto.set_self ..) (Nb rfl) rfl (OS_bind hK (by decide)) ?_
 rw [set_set]
 walk_at "S"
 refine SETA_own (Sto.set_self ..) (Nb rfl) rfl (OS_bind hK (by decide)) ?_
 rw [set_set]
 walk_at "S"
 refine SETA_own (Sto.set_self ..) (Nb rfl) rfl (OS_bind hK (by decide)) ?_
 rw [set_set]
 walk_at "S"
 refine SETA_own (Sto.set_self ..) (Nb rfl) rfl (OS_bind hK (by decide)) ?_
 rw [set_set]
 walk_at "S"
 exact eQ _ _ ⟨rfl, h d hd⟩
theorem Node_new (b : Bud A (n + 2)) {k : Str} {l p : MV} (hl : l.hok = true) (hp : p.hok = true) {Q : MV → Sto → Prop} (h : ∀ d, σ d = none → Q (.ref d) (σ.set d (.inst 31 (nodeFs k l p)))) : CALL C A (.ref 31) [.str k, l, p] σ Q := by
 refine CALL_make (hK ▸ mkN _) (hK ▸ inN _) (hK ▸ tyN _) b fun d A' hd b' => ?_
 refine runFnQ hK (f := 28) ["self", "kind", "line", "parts"] (fun U => rfl) (fun U => rfl) rfl rfl (ar4 fun U U U U => rfl) rfl rfl b' fun FF e1 eQ hK b' => ?_
 subst e1
 walk_at "S"
 refine SETA_own (Sto.set_self ..) (Nb rfl) rfl (OS_node hK (by decide)) ?_
 rw [set_set]
 walk_at "S"
 refine SETA_own (Sto.set_self ..) (Nb rfl) hl (OS_node hK (by decide)) ?_
 rw [set_set]
 walk_at "S"
 refine SETA_own (Sto.set_self ..) (Nb rfl) hp (OS_node hK (by decide)) ?_
 rw [set_set]
 walk_at "S"
 refine SETA_own (Sto.set_self ..) (Nb rfl) rfl (OS_node hK (by decide)) ?_
 rw [set_set]
 walk_at "S"
 exact eQ _ _ ⟨rfl, h d hd⟩
end
end
section
noncomputable abbrev N := Fin 5
inductive VE where
 | sc (k : Nat) (own : List N) (sf : Option N)
 | ct (c : Nat) (x : N)
inductive BId where
 | own (k : Nat) (x : N)
 | self (k : Nat)
 | ct (c : Nat)
inductive Role where
 | sc (k : Nat) | par (k : Nat) | own (k : Nat) | kids (k : Nat) | cats (k : Nat) | caps (k : Nat) | capd (k : Nat) | pps (k : Nat)
 | bi (b : BId) | ct (c : Nat)
structure Sc where
 ch : List VE
 strict : Bool
 ua : Bool
 ps : List N
 own : List N
 sf : Option N
 kids : List Nat
 cats : List Nat
 loc : Nat
 cel : Nat
 capd : List BId
 caps : List (Bool × Nat)
 pps : List (Option (Bool × Nat))
structure Ct where
 ch : List VE
 nm : N
structure AS where
 n : Nat
 m : Nat
 sc : Nat → Sc
 ct : Nat → Ct
 cap : BId → Bool
 pl : BId → Option (Bool × Nat)
noncomputable abbrev Map := Role → Option Addr
open Classical in
noncomputable def upd {α β : Type} (f : α → β) (a : α) (b : β) : α → β := fun x => if x = a then b else f x
theorem upd_self {α β : Type} (f : α → β) (a : α) (b : β) : upd f a b a = b := by unfold upd; rw [if_pos rfl]
theorem upd_ne {α β : Type} (f : α → β) {a x : α} (b : β) (h : x ≠ a) : upd f a b x = f x := by unfold upd; rw [if_neg h]
noncomputable def F2 {α : Type} (R : α → MV → Prop) (l : List α) (xs : List MV) : Prop := l.length = xs.length ∧ ∀ (i : Nat) (x : α) (v : MV), l[i]? = some x → xs[i]? = some v → R x v
theorem F2.mono {α : Type} {R R' : α → MV → Prop} {l : List α} {xs : List MV} (h : F2 R l xs) (k : ∀ x v, R x v → R' x v) : F2 R' l xs := ⟨h.1, fun i x v e1 e2 => k _ _ (h.2 i x v e1 e2)⟩
theorem F2.nil {α : Type} {R : α → MV → Prop} : F2 R [] [] := ⟨rfl, fun i x v h => by simp at h⟩
theorem F2.snoc {α : Type} {R : α → MV → Prop} {l : List α} {xs : List MV} (h : F2 R l xs) {x : α} {v : MV} (r : R x v) : F2 R (l ++ [x]) (xs ++ [v]) := by
 refine ⟨by simp [h.1], fun i y w e1 e2 => ?_⟩
 by_cases hi : i < l.length
 ·rw [List.getElem?_append_left hi] at e1
  rw [List.getElem?_append_left (h.1 ▸ hi)] at e2
  exact h.2 i y w e1 e2
 ·rw [List.getElem?_append_right (by lia)] at e1
  rw [List.getElem?_append_right (by rw [← h.1]; lia), ← h.1] at e2
  have : i - l.length = 0 := by
   have := (Gs e1).1
   simp at this; lia
  rw [this] at e1 e2
  obtain rfl := si e1; obtain rfl := si e2; exact r
theorem F2.app {α : Type} {R : α → MV → Prop} {l l' : List α} {xs xs' : List MV} (h : F2 R l xs) (h' : F2 R l' xs') : F2 R (l ++ l') (xs ++ xs') := by
 refine ⟨by simp [h.1, h'.1], fun i y w e1 e2 => ?_⟩
 by_cases hi : i < l.length
 ·rw [List.getElem?_append_left hi] at e1
  rw [List.getElem?_append_left (h.1 ▸ hi)] at e2
  exact h.2 i y w e1 e2
 ·rw [List.getElem?_append_right (by lia)] at e1
  rw [List.getElem?_append_right (by rw [← h.1]; lia), ← h.1] at e2
  exact h'.2 _ y w e1 e2
theorem F2.cons {α : Type} {R : α → MV → Prop} {l : List α} {xs : List MV} (h : F2 R l xs) {x : α} {v : MV} (r : R x v) : F2 R (x :: l) (v :: xs) := by
 refine ⟨by simp [h.1], fun i y w e1 e2 => ?_⟩
 cases i with
 | zero => obtain rfl := si e1; obtain rfl := si e2; exact r
 | succ i => exact h.2 i y w e1 e2
theorem F2.left {α : Type} {R : α → MV → Prop} {x : α} {l : List α} {xs : List MV} (h : F2 R (x :: l) xs) : ∃ v ys, xs = v :: ys ∧ R x v ∧ F2 R l ys := by
 cases xs with
 | nil => cases h.1
 | cons v ys => exact ⟨v, ys, rfl, h.2 0 x v rfl rfl, by simpa using h.1, fun i y w e1 e2 => h.2 (i + 1) y w e1 e2⟩
theorem F2.nil_of {α : Type} {R : α → MV → Prop} {xs : List MV} (h : F2 R [] xs) : xs = [] := by
 have := h.1
 exact List.eq_nil_of_length_eq_zero this.symm
noncomputable def RV (μ : Map) (r : Role) (v : MV) : Prop := ∃ a, μ r = some a ∧ v = .ref a
noncomputable def VV (μ : Map) : List VE → MV → Prop
 | [], v => v = .none
 | .sc k _ _ :: _, v => RV μ (.sc k) v
 | .ct c _ :: _, v => RV μ (.ct c) v
noncomputable def SV (μ : Map) (k : Nat) : Option N → MV → Prop
 | none, v => v = .none
 | some _, v => RV μ (.bi (.self k)) v
noncomputable def plStr (c : Bool) : Str := if c then "cell" else "local"
noncomputable def PV (σ : Sto) : Option (Bool × Nat) → MV → Prop
 | none, v => v = .none
 | some (c, i), v => ∃ t, v = .ref t ∧ σ t = some (.tuple [.str (plStr c), .int i])
noncomputable def CV (σ : Sto) (p : Bool × Nat) (v : MV) : Prop := ∃ t, v = .ref t ∧ σ t = some (.tuple [.bool p.1, .int p.2])
noncomputable def sortOf : BId → Str
 | .own .. => "own"
 | .self _ => "self"
 | .ct _ => "catch"
noncomputable def nmOf (A : AS) : BId → Option N
 | .own _ x => some x
 | .self k => (A.sc k).sf
 | .ct c => some (A.ct c).nm
noncomputable def scMeths : List Str := ["declare", "function", "binding", "find", "is_constant"]
structure GSc (μ : Map) (k : Nat) (ch : List VE) (sf : Option N) (strict ua : Bool) (loc cel : Nat) (fs : Loc) : Prop where
 parent : ∃ v, LK fs "parent" v ∧ VV μ ch v
 params : ∃ a, LK fs "params" (.ref a) ∧ μ (.par k) = some a
 own : ∃ a, LK fs "own" (.ref a) ∧ μ (.own k) = some a
 kids : ∃ a, LK fs "children" (.ref a) ∧ μ (.kids k) = some a
 cats : ∃ a, LK fs "catches" (.ref a) ∧ μ (.cats k) = some a
 caps : ∃ a, LK fs "captures" (.ref a) ∧ μ (.caps k) = some a
 capd : ∃ a, LK fs "captured" (.ref a) ∧ μ (.capd k) = some a
 pps : ∃ a, LK fs "param_places" (.ref a) ∧ μ (.pps k) = some a
 slf : ∃ v, LK fs "self_binding" v ∧ SV μ k sf v
 strict : LK fs "is_strict" (.bool strict)
 ua : LK fs "uses_arguments" (.bool ua)
 loc : LK fs "local_count" (.int loc)
 cel : LK fs "cell_count" (.int cel)
 len : fs.length ≤ 100
 meth : ∀ x ∈ scMeths, fs.lookup x = none
structure GBi (w : N → Str) (σ : Sto) (A : AS) (b : BId) (fs : Loc) : Prop where
 name : ∃ x, nmOf A b = some x ∧ LK fs "name" (.str (w x))
 sort : LK fs "sort" (.str (sortOf b))
 cap : LK fs "is_captured" (.bool (A.cap b))
 place : ∃ v, LK fs "place" v ∧ PV σ (A.pl b) v
 len : fs.length ≤ 100
structure GCt (w : N → Str) (μ : Map) (c : Nat) (ch : List VE) (x : N) (fs : Loc) : Prop where
 parent : ∃ v, LK fs "parent" v ∧ VV μ ch v
 name : LK fs "name" (.str (w x))
 caught : ∃ a, LK fs "caught" (.ref a) ∧ μ (.bi (.ct c)) = some a
 meth : ∀ x ∈ scMeths, fs.lookup x = none
noncomputable def OwnD (w : N → Str) (μ : Map) (k : Nat) (own : List N) (es : Loc) : Prop := es.map (·.1) = own.map w ∧ ∀ x ∈ own, ∃ a, μ (.bi (.own k x)) = some a ∧ es.lookup (w x) = some (.ref a)
noncomputable def Good (w : N → Str) (μ : Map) (A : AS) (σ : Sto) : Role → MO → Prop
 | .sc k, o => ∃ fs, o = .inst 184 fs ∧ GSc μ k (A.sc k).ch (A.sc k).sf (A.sc k).strict (A.sc k).ua (A.sc k).loc (A.sc k).cel fs
 | .par k, o => o = .list ((A.sc k).ps.map fun x => .str (w x))
 | .own k, o => ∃ es ep, o = .dict es ep ∧ OwnD w μ k (A.sc k).own es
 | .kids k, o => ∃ xs, o = .list xs ∧ F2 (fun j v => RV μ (.sc j) v) (A.sc k).kids xs
 | .cats k, o => ∃ xs, o = .list xs ∧ F2 (fun j v => RV μ (.ct j) v) (A.sc k).cats xs
 | .caps k, o => ∃ xs, o = .list xs ∧ F2 (CV σ) (A.sc k).caps xs
 | .capd k, o => ∃ xs, o = .list xs ∧ F2 (fun b v => RV μ (.bi b) v) (A.sc k).capd xs
 | .pps k, o => ∃ xs, o = .list xs ∧ F2 (PV σ) (A.sc k).pps xs
 | .bi b, o => ∃ fs, o = .inst 114 fs ∧ GBi w σ A b fs
 | .ct c, o => ∃ fs, o = .inst 233 fs ∧ GCt w μ c (A.ct c).ch (A.ct c).nm fs
noncomputable def Lim (A : AS) : Role → Prop
 | .sc k | .par k | .own k | .kids k | .cats k | .caps k | .capd k | .pps k | .bi (.own k _) | .bi (.self k) => k < A.n
 | .bi (.ct c) | .ct c => c < A.m
theorem Lim.le {A A' : AS} {r : Role} (h : Lim A r) (hn : A.n ≤ A'.n) (hm : A.m ≤ A'.m) : Lim A' r := by
 cases r <;> first | exact Nat.lt_of_lt_of_le h hn | exact Nat.lt_of_lt_of_le h hm | (rename_i b; cases b <;> first | exact Nat.lt_of_lt_of_le h hn | exact Nat.lt_of_lt_of_le h hm)
noncomputable def Off (μ : Map) (a : Addr) : Prop := ∀ r, μ r ≠ some a
noncomputable def Tup (σ σ' : Sto) : Prop := ∀ t xs, σ t = some (.tuple xs) → σ' t = some (.tuple xs)
noncomputable def Sub (σ σ' : Sto) : Prop := ∀ a o, σ a = some o → σ' a = some o
noncomputable def MSub (μ μ' : Map) : Prop := ∀ r a, μ r = some a → μ' r = some a
theorem MSub.refl {μ : Map} : MSub μ μ := fun U U e => e
theorem Sub.tup {σ σ' : Sto} (h : Sub σ σ') : Tup σ σ' := fun t xs e => h t _ e
theorem Sub.refl {σ : Sto} : Sub σ σ := fun U U e => e
theorem Sub.trans {σ σ' σ'' : Sto} (h : Sub σ σ') (h' : Sub σ' σ'') : Sub σ σ'' := fun a o e => h' a o (h a o e)
theorem Sub.new {σ : Sto} {d : Addr} {o : MO} (hd : σ d = none) : Sub σ (σ.set d o) := sub_new hd
noncomputable def isTup : MO → Bool
 | .tuple _ => true
 | _ => false
theorem Good.nt {w : N → Str} {μ : Map} {A : AS} {σ : Sto} {r : Role} {o : MO} (h : Good w μ A σ r o) : isTup o = false := by
 cases r <;> first | (cases h; rfl) | (refine xe12 h fun U eq1 U => ?_; obtain rfl := eq1; rfl) | (refine xe22 h fun U U eq2 U => ?_; obtain rfl := eq2; rfl)
section
variable {w : N → Str} {μ μ' : Map} {A A' : AS} {σ σ' : Sto}
theorem RV.mono {r : Role} {v : MV} (m : MSub μ μ') (h : RV μ r v) : RV μ' r v := by
 refine xe12 h fun a e h => ?_
 exact ⟨a, m _ _ e, h⟩
theorem VV.mono {ch : List VE} {v : MV} (m : MSub μ μ') (h : VV μ ch v) : VV μ' ch v := by
 cases ch with
 | nil => exact h
 | cons e r => cases e <;> exact RV.mono m h
theorem SV.mono {k : Nat} {s : Option N} {v : MV} (m : MSub μ μ') (h : SV μ k s v) : SV μ' k s v := by
 cases s with
 | none => exact h
 | some x => exact RV.mono m h
theorem PV.mono {p : Option (Bool × Nat)} {v : MV} (t : Tup σ σ') (h : PV σ p v) : PV σ' p v := by
 cases p with
 | none => exact h
 | some q => refine xe12 h fun a e h => ?_; exact ⟨a, e, t _ _ h⟩
theorem CV.mono {p : Bool × Nat} {v : MV} (t : Tup σ σ') (h : CV σ p v) : CV σ' p v := by
 refine xe12 h fun a e h => ?_; exact ⟨a, e, t _ _ h⟩
theorem GSc.mono {k : Nat} {ch : List VE} {s : Option N} {st ua : Bool} {l c : Nat} {fs : Loc} (m : MSub μ μ') (h : GSc μ k ch s st ua l c fs) : GSc μ' k ch s st ua l c fs where
 parent := by refine xe12 h.parent fun v e q => ?_; exact ⟨v, e, q.mono m⟩
 params := by refine xe12 h.params fun v e q => ?_; exact ⟨v, e, m _ _ q⟩
 own := by refine xe12 h.own fun v e q => ?_; exact ⟨v, e, m _ _ q⟩
 kids := by refine xe12 h.kids fun v e q => ?_; exact ⟨v, e, m _ _ q⟩
 cats := by refine xe12 h.cats fun v e q => ?_; exact ⟨v, e, m _ _ q⟩
 caps := by refine xe12 h.caps fun v e q => ?_; exact ⟨v, e, m _ _ q⟩
 capd := by refine xe12 h.capd fun v e q => ?_; exact ⟨v, e, m _ _ q⟩
 pps := by refine xe12 h.pps fun v e q => ?_; exact ⟨v, e, m _ _ q⟩
 slf := by refine xe12 h.slf fun v e q => ?_; exact ⟨v, e, q.mono m⟩
 strict := h.strict
 ua := h.ua
 loc := h.loc
 cel := h.cel
 len := h.len
 meth := h.meth
theorem GBi.mono {b : BId} {fs : Loc} (t : Tup σ σ') (h : GBi w σ A b fs) : GBi w σ' A b fs where
 name := h.name
 sort := h.sort
 cap := h.cap
 place := by refine xe12 h.place fun v e q => ?_; exact ⟨v, e, q.mono t⟩
 len := h.len
theorem GCt.mono {c : Nat} {ch : List VE} {x : N} {fs : Loc} (m : MSub μ μ') (h : GCt w μ c ch x fs) : GCt w μ' c ch x fs where
 parent := by refine xe12 h.parent fun v e q => ?_; exact ⟨v, e, q.mono m⟩
 name := h.name
 caught := by refine xe12 h.caught fun v e q => ?_; exact ⟨v, e, m _ _ q⟩
 meth := h.meth
theorem OwnD.mono {k : Nat} {own : List N} {es : Loc} (m : MSub μ μ') (h : OwnD w μ k own es) : OwnD w μ' k own es :=
 ⟨h.1, fun x hx => by refine xe12 (h.2 x hx) fun a e q => ?_; exact ⟨a, m _ _ e, q⟩⟩
theorem Good.mono {r : Role} {o : MO} (m : MSub μ μ') (t : Tup σ σ') (h : Good w μ A σ r o) : Good w μ' A σ' r o := by
 cases r with
 | sc k => refine xe12 h fun fs e h => ?_; exact ⟨fs, e, h.mono m⟩
 | par k => exact h
 | own k => refine xe22 h fun es ep e h => ?_; exact ⟨es, ep, e, h.mono m⟩
 | kids k => refine xe12 h fun xs e h => ?_; exact ⟨xs, e, h.mono fun U U q => q.mono m⟩
 | cats k => refine xe12 h fun xs e h => ?_; exact ⟨xs, e, h.mono fun U U q => q.mono m⟩
 | caps k => refine xe12 h fun xs e h => ?_; exact ⟨xs, e, h.mono fun U U q => q.mono t⟩
 | capd k => refine xe12 h fun xs e h => ?_; exact ⟨xs, e, h.mono fun U U q => q.mono m⟩
 | pps k => refine xe12 h fun xs e h => ?_; exact ⟨xs, e, h.mono fun U U q => q.mono t⟩
 | bi b => refine xe12 h fun fs e h => ?_; exact ⟨fs, e, h.mono t⟩
 | ct c => refine xe12 h fun fs e h => ?_; exact ⟨fs, e, h.mono m⟩
end
structure Rep (w : N → Str) (Λ : Sto) (D : List (Addr × Role)) (μ : Map) (A : AS) (σ : Sto) : Prop where
 on : On Λ σ
 off : ∀ r a, μ r = some a → Λ a = none
 inj : ∀ r r' a, μ r = some a → μ r' = some a → r = r'
 at_ : ∀ r a, μ r = some a → ∃ o, σ a = some o ∧ Good w μ A σ r o
 lim : ∀ r a, μ r = some a → Lim A r
 nod : ∀ q ∈ D, Λ q.1 ≠ none ∧ ∃ fs v, σ q.1 = some (.inst 31 fs) ∧ LK fs "scope" v ∧ RV μ q.2 v
theorem On.setOff {Λ σ : Sto} {a : Addr} {o : MO} (h : On Λ σ) (e : Λ a = none) : On Λ (σ.set a o) := fun b x q => by
 have hb : b ≠ a := by rintro rfl; exact nn (e.symm.trans q)
 rcases h b x q with z | ⟨D, fs, v, z, z'⟩
 ·exact .inl (keep_ne hb z)
 ·exact .inr ⟨D, fs, v, z, keep_ne hb z'⟩
theorem Tup.set {σ : Sto} {a : Addr} {o : MO} (h : ∀ x, σ a = some x → isTup x = false) : Tup σ (σ.set a o) := fun t xs e => by
 refine keep_ne ?_ e
 rintro rfl
 cases h _ e
structure Fr (Λ : Sto) (μ : Map) (σ : Sto) (μ' : Map) (σ' : Sto) : Prop where
 m : MSub μ μ'
 t : Tup σ σ'
 k : ∀ a o, Λ a = none → Off μ a → σ a = some o → σ' a = some o ∧ Off μ' a
section
variable {w : N → Str} {Λ : Sto} {D D' : List (Addr × Role)} {μ μ' μ'' : Map} {A A' : AS} {σ σ' σ'' : Sto}
theorem Fr.refl : Fr Λ μ σ μ σ := ⟨MSub.refl, fun U U e => e, fun U U U h e => ⟨e, h⟩⟩
theorem Fr.trans (h : Fr Λ μ σ μ' σ') (h' : Fr Λ μ' σ' μ'' σ'') : Fr Λ μ σ μ'' σ'' :=
 ⟨fun r a e => h'.m r a (h.m r a e), fun t xs e => h'.t t xs (h.t t xs e), fun a o e1 e2 e3 => by refine xe02 (h.k a o e1 e2 e3) fun q1 q2 => ?_; exact h'.k a o e1 q2 q1⟩
theorem Fr.sub (h : Sub σ σ') : Fr Λ μ σ μ σ' := ⟨MSub.refl, h.tup, fun a o U h1 e => ⟨h a o e, h1⟩⟩
theorem Fr.set {a : Addr} {o : MO} {r : Role} (hr : μ r = some a) (ht : ∀ x, σ a = some x → isTup x = false) : Fr Λ μ σ μ (σ.set a o) :=
 ⟨MSub.refl, Tup.set ht, fun b x U h1 e => ⟨keep_ne (by rintro rfl; exact h1 r hr) e, h1⟩⟩
theorem Off.new {a : Addr} (rep : Rep w Λ D μ A σ) (h : σ a = none) : Off μ a := fun r e => by
 refine xe12 (rep.at_ r a e) fun o q U => ?_
 exact nn (h.symm.trans q)
theorem Rep.fresh {a : Addr} (rep : Rep w Λ D μ A σ) (h : σ a = none) : Λ a = none := by
 cases q : Λ a with
 | none => rfl
 | some o =>
  rcases rep.on a o q with z | ⟨_, _, _, _, z⟩ <;> (exact nn (h.symm.trans z))
theorem Rep.sub (rep : Rep w Λ D μ A σ) (s : Sub σ σ') : Rep w Λ D μ A σ' where
 on := fun a o e => by
  rcases rep.on a o e with q | ⟨D, fs, v, q, q'⟩
  ·exact .inl (s _ _ q)
  ·exact .inr ⟨D, fs, v, q, s _ _ q'⟩
 off := rep.off
 inj := rep.inj
 at_ := fun r a e => by
  refine xe12 (rep.at_ r a e) fun o q g => ?_
  exact ⟨o, s _ _ q, g.mono MSub.refl s.tup⟩
 lim := rep.lim
 nod := fun q hq => by
  obtain ⟨h1, fs, v, h2, h3⟩ := rep.nod q hq
  exact ⟨h1, fs, v, s _ _ h2, h3⟩
theorem Rep.nt {r : Role} {a : Addr} (rep : Rep w Λ D μ A σ) (hr : μ r = some a) : ∀ x, σ a = some x → isTup x = false := fun x e => by
 refine xe12 (rep.at_ r a hr) fun o q g => ?_
 obtain rfl := si (e.symm.trans q)
 exact g.nt
theorem Rep.set {r : Role} {a : Addr} {o : MO} (rep : Rep w Λ D μ A σ) (hr : μ r = some a) (hn : A'.n = A.n) (hm : A'.m = A.m) (g : Tup σ (σ.set a o) → Good w μ A' (σ.set a o) r o)
  (k : ∀ r' o', r' ≠ r → Good w μ A σ r' o' → Good w μ A' σ r' o') : Rep w Λ D μ A' (σ.set a o) where
 on := rep.on.setOff (rep.off _ _ hr)
 off := rep.off
 inj := rep.inj
 at_ := fun r' b e => by
  by_cases h : r' = r
  ·subst h
   obtain rfl := si (hr.symm.trans e)
   exact ⟨o, Sto.set_self .., g (Tup.set (rep.nt hr))⟩
  ·refine xe12 (rep.at_ r' b e) fun o' q g' => ?_
   refine ⟨o', keep_ne ?_ q, (k r' o' h g').mono MSub.refl (Tup.set (rep.nt hr))⟩
   rintro rfl
   exact h (rep.inj _ _ _ e hr)
 lim := fun r a e => by
  exact (rep.lim r a e).le (Nat.le_of_eq hn.symm) (Nat.le_of_eq hm.symm)
 nod := fun q hq => by
  obtain ⟨h1, fs, v, h2, h3⟩ := rep.nod q hq
  refine ⟨h1, fs, v, keep_ne ?_ h2, h3⟩
  rintro e
  exact h1 (e ▸ rep.off _ _ hr)
theorem Rep.tmp {a : Addr} {o : MO} (rep : Rep w Λ D μ A σ) (ha : Off μ a) (hl : Λ a = none) (ht : ∀ x, σ a = some x → isTup x = false) : Rep w Λ D μ A (σ.set a o) where
 on := rep.on.setOff hl
 off := rep.off
 inj := rep.inj
 at_ := fun r' b e => by
  refine xe12 (rep.at_ r' b e) fun o' q g' => ?_
  refine ⟨o', keep_ne ?_ q, g'.mono MSub.refl (Tup.set ht)⟩
  rintro rfl
  exact ha _ e
 lim := rep.lim
 nod := fun q hq => by
  obtain ⟨h1, fs, v, h2, h3⟩ := rep.nod q hq
  refine ⟨h1, fs, v, keep_ne ?_ h2, h3⟩
  rintro e
  exact h1 (e ▸ hl)
theorem Rep.add {r : Role} {a : Addr} {o : MO} (rep : Rep w Λ D μ A σ) (e : σ a = some o) (hl : Λ a = none) (ha : Off μ a) (hr : μ r = none) (hlim : Lim A r) (g : MSub μ (upd μ r (some a)) → Good w (upd μ r (some a)) A σ r o) : Rep w Λ D (upd μ r (some a)) A σ := by
 have ms : MSub μ (upd μ r (some a)) := fun r' b e' => by
  rw [upd_ne _ _ (by rintro rfl; exact nn (hr.symm.trans e'))]; exact e'
 refine ⟨rep.on, fun r' b e' => ?_, fun r1 r2 b e1 e2 => ?_, fun r' b e' => ?_, fun r' b e' => ?_, fun q hq => ?_⟩
 ·by_cases h : r' = r
  ·subst h; rw [upd_self] at e'; obtain rfl := si e'; exact hl
  ·rw [upd_ne _ _ h] at e'; exact rep.off _ _ e'
 ·by_cases h1 : r1 = r <;> by_cases h2 : r2 = r
  ·rw [h1, h2]
  ·subst h1; rw [upd_self] at e1; rw [upd_ne _ _ h2] at e2; obtain rfl := si e1; exact absurd e2 (ha _)
  ·subst h2; rw [upd_self] at e2; rw [upd_ne _ _ h1] at e1; obtain rfl := si e2; exact absurd e1 (ha _)
  ·rw [upd_ne _ _ h1] at e1; rw [upd_ne _ _ h2] at e2; exact rep.inj _ _ _ e1 e2
 ·by_cases h : r' = r
  ·subst h; rw [upd_self] at e'; obtain rfl := si e'; exact ⟨o, e, g ms⟩
  ·rw [upd_ne _ _ h] at e'
   refine xe12 (rep.at_ _ _ e') fun o' q g' => ?_
   exact ⟨o', q, g'.mono ms fun U U e => e⟩
 ·by_cases h : r' = r
  ·subst h; exact hlim
  ·rw [upd_ne _ _ h] at e'; exact rep.lim _ _ e'
 ·obtain ⟨h1, fs, v, h2, h3, h4⟩ := rep.nod q hq
  exact ⟨h1, fs, v, h2, h3, h4.mono ms⟩
theorem upd_msub {r : Role} {a : Addr} (hr : μ r = none) : MSub μ (upd μ r (some a)) := fun r' b e' => by
 rw [upd_ne _ _ (by rintro rfl; exact nn (hr.symm.trans e'))]; exact e'
theorem Off.upd {r : Role} {a b : Addr} (h : Off μ b) (hab : b ≠ a) : Off (upd μ r (some a)) b := fun r' e => by
 by_cases hr : r' = r
 ·subst hr; rw [upd_self] at e; obtain rfl := si e; exact hab rfl
 ·rw [upd_ne _ _ hr] at e; exact h _ e
theorem Rep.abs (rep : Rep w Λ D μ A σ) (k : ∀ r o, Lim A r → Good w μ A σ r o → Good w μ A' σ r o) (hn : A.n ≤ A'.n) (hm : A.m ≤ A'.m) : Rep w Λ D μ A' σ where
 on := rep.on
 off := rep.off
 inj := rep.inj
 at_ := fun r a e => by
  refine xe12 (rep.at_ r a e) fun o q g => ?_
  exact ⟨o, q, k r o (rep.lim _ _ e) g⟩
 lim := fun r a e => by
  exact (rep.lim r a e).le hn hm
 nod := rep.nod
theorem Rep.node {a : Addr} {fs fs0 : Loc} {r : Role} {v : MV} (rep : Rep w Λ D μ A σ) (hl : Λ a = some (.inst 31 fs0)) (e : σ a = some (.inst 31 fs)) (hd : ∀ q ∈ D, q.1 ≠ a) (hv : RV μ r v) (hs : ∀ w, setL fs "scope" w = setL fs0 "scope" w) : Rep w Λ ((a, r) :: D) μ A (σ.set a (.inst 31 (setL fs "scope" v))) where
 on := fun b o q => by
  by_cases hb : b = a
  ·subst hb
   obtain rfl := si (hl.symm.trans q)
   exact .inr ⟨31, fs0, v, rfl, by rw [Sto.set_self, hs]⟩
  ·rcases rep.on b o q with z | ⟨D, fs, v, z, z'⟩
   ·exact .inl (keep_ne hb z)
   ·exact .inr ⟨D, fs, v, z, keep_ne hb z'⟩
 off := rep.off
 inj := rep.inj
 at_ := fun r' b e' => by
  refine xe12 (rep.at_ r' b e') fun o' q g' => ?_
  refine ⟨o', keep_ne ?_ q, g'.mono MSub.refl (Tup.set fun x h => ?_)⟩
  ·rintro rfl
   have := rep.off _ _ e'
   exact sn (hl.symm.trans this)
  ·obtain rfl := si (e.symm.trans h); rfl
 lim := rep.lim
 nod := fun q hq => by
  rcases List.mem_cons.mp hq with rfl | hq
  ·exact ⟨by rw [hl]; exact nofun, _, v, Sto.set_self .., look_eq, hv⟩
  ·obtain ⟨h1, fs', v', h2, h3⟩ := rep.nod q hq
   exact ⟨h1, fs', v', keep_ne (hd q hq) h2, h3⟩
theorem Fr.node {a : Addr} {o x : MO} (hl : Λ a ≠ none) (e : σ a = some x) (hx : isTup x = false) : Fr Λ μ σ μ (σ.set a o) :=
 ⟨MSub.refl, Tup.set fun y h => by obtain rfl := si (e.symm.trans h); exact hx, fun b x h0 h1 e => ⟨keep_ne (by rintro rfl; exact hl h0) e, h1⟩⟩
end
end
section
noncomputable def bindVE : VE → N → Option BId
 | .sc k own sf, x => if x ∈ own then some (.own k x) else if sf = some x then some (.self k) else none
 | .ct c y, x => if x = y then some (.ct c) else none
theorem bindVE_sc {k : Nat} {own : List N} {sf : Option N} {x : N} : bindVE (.sc k own sf) x = if x ∈ own then some (.own k x) else if sf = some x then some (.self k) else none := rfl
theorem bindVE_ct {c : Nat} {x y : N} : bindVE (.ct c y) x = if x = y then some (.ct c) else none := rfl
noncomputable def passVE : VE → List Nat
 | .sc k _ _ => [k]
 | .ct .. => []
noncomputable def lookV : List VE → N → Option BId × List Nat
 | [], _ => (none, [])
 | e :: r, x => match bindVE e x with
  | some b => (some b, [])
  | none => ((lookV r x).1, passVE e ++ (lookV r x).2)
noncomputable def ChOk (S : AS) : List VE → Prop
 | [] => True
 | .sc k own sf :: r => k < S.n ∧ (S.sc k).own = own ∧ (S.sc k).sf = sf ∧ (S.sc k).ch = r ∧ ChOk S r
 | .ct c x :: r => c < S.m ∧ (S.ct c).nm = x ∧ (S.ct c).ch = r ∧ ChOk S r
noncomputable def BV (μ : Map) : Option BId → MV → Prop
 | none, v => v = .none
 | some b, v => RV μ (.bi b) v
theorem ChOk.mono {S S' : AS} (hn : S.n ≤ S'.n) (hm : S.m ≤ S'.m) (h1 : ∀ k, k < S.n → (S'.sc k).own = (S.sc k).own ∧ (S'.sc k).sf = (S.sc k).sf ∧ (S'.sc k).ch = (S.sc k).ch) (h2 : ∀ c, c < S.m → (S'.ct c) = S.ct c) : ∀ {ch : List VE}, ChOk S ch → ChOk S' ch
 | [], _ => trivial
 | .sc k own sf :: r, ⟨a1, a2, a3, a4, a5⟩ => by
  refine xe03 (h1 k a1) fun b1 b2 b3 => ?_
  exact ⟨Nat.lt_of_lt_of_le a1 hn, b1.trans a2, b2.trans a3, b3.trans a4, a5.mono hn hm h1 h2⟩
 | .ct c x :: r, ⟨a1, a2, a3, a4⟩ => by
  have b := h2 c a1
  exact ⟨Nat.lt_of_lt_of_le a1 hm, by rw [b]; exact a2, by rw [b]; exact a3, a4.mono hn hm h1 h2⟩
theorem OwnD.mem {w : N → Str} {μ : Map} {k : Nat} {own : List N} {es : Loc} (hw : ∀ x y, w x = w y → x = y) (h : OwnD w μ k own es) (x : N) : (es.lookup (w x)).isSome = decide (x ∈ own) := by
 obtain ⟨h, h'⟩ := h
 clear h'
 induction es generalizing own with
 | nil => cases own with
  | nil => rfl
  | cons => cases h
 | cons p es ih =>
  cases own with
  | nil => cases h
  | cons y own =>
   rw [List.map_cons, List.map_cons, List.cons.injEq] at h
   obtain ⟨py, pv⟩ := p
   have e1 : py = w y := h.1
   subst e1
   by_cases q : x = y
   ·subst q; simp
   ·have : (w x == w y) = false := by
     rw [beq_eq_false_iff_ne]; exact fun z => q (hw _ _ z)
    rw [List.lookup_cons, this]
    simp [q, ih h.2]
theorem look_loop {P : Loc → Prop} {R : List VE → List Nat → Loc → Prop} {x : N} {F : Option BId × List Nat}
  (hnil : ∀ ps ρ, P ρ → F = (none, ps) → R [] ps ρ)
  (hhit : ∀ e r ps ρ b, P ρ → bindVE e x = some b → F = (some b, ps) → R (e :: r) ps ρ)
  (hmiss : ∀ e r ps ρ, P ρ → bindVE e x = none → (∀ ρ', P ρ' → R r (ps ++ passVE e) ρ') → R (e :: r) ps ρ) :
  ∀ (ch : List VE) (ps : List Nat) (ρ : Loc), P ρ → F = ((lookV ch x).1, ps ++ (lookV ch x).2) → R ch ps ρ
 | [], ps, ρ, p, e => hnil ps ρ p (by rw [e]; show (none, ps ++ []) = _; rw [List.append_nil])
 | v :: r, ps, ρ, p, e => by
  cases hb : bindVE v x with
  | some b => exact hhit v r ps ρ b p hb (by rw [e]; unfold lookV; rw [hb]; show (_, ps ++ []) = _; rw [List.append_nil])
  | none => exact hmiss v r ps ρ p hb fun ρ' p' => look_loop hnil hhit hmiss r _ ρ' p' (by rw [e, lookV, hb, List.append_assoc])
theorem lookV_len : ∀ (ch : List VE) (x : N), (lookV ch x).2.length ≤ ch.length
 | [], _ => Nat.le_refl _
 | e :: r, x => by
  unfold lookV
  cases bindVE e x with
  | some b => exact Nat.zero_le _
  | none =>
   have := lookV_len r x
   have h : (passVE e).length ≤ 1 := by cases e <;> simp [passVE]
   show (passVE e ++ (lookV r x).2).length ≤ r.length + 1
   rw [List.length_append]; lia
theorem beq_w {w : N → Str} (hw : ∀ x y, w x = w y → x = y) (x y : N) : (w x == w y) = decide (x = y) := by
 by_cases h : x = y
 ·subst h; simp
 ·rw [decide_eq_false h, beq_eq_false_iff_ne]; exact fun z => h (hw _ _ z)
noncomputable def methOk (K : Frag) (D : Addr) (x : Str) (f : Addr) : Bool := plainGet K D x && (findIn K (.ref D) x == some (some (.ref f))) && isFn K (.ref f) && keepIn K (.ref f)
theorem meth_of {K : Frag} {D f : Addr} {x : Str} (h : methOk K D x f = true) : OwnMeth K D x f := by
 unfold methOk at h
 rw [Bool.and_eq_true, Bool.and_eq_true, Bool.and_eq_true] at h
 exact ⟨h.1.1.1, beq_iff_eq.mp h.1.1.2, h.1.2, h.2⟩
noncomputable def methS : List (Str × Addr) := [("declare", 137), ("function", 144), ("binding", 151), ("find", 158), ("is_constant", 165)]
noncomputable def methC : List (Str × Addr) := [("function", 209), ("binding", 216), ("find", 223), ("is_constant", 230)]
theorem methS_ok (P : Params) : methS.all (fun q => methOk (KF P) 184 q.1 q.2) = true := by kernel_rfl
theorem methC_ok (P : Params) : methC.all (fun q => methOk (KF P) 233 q.1 q.2) = true := by kernel_rfl
section
variable {C : Cx} (hK : PK C)
include hK
theorem OM_scope {x : Str} {f : Addr} (h : (x, f) ∈ methS) : OwnMeth C.K 184 x f := meth_of (List.all_eq_true.mp (hK ▸ methS_ok C.w.params) (x, f) h)
theorem OM_catch {x : Str} {f : Addr} (h : (x, f) ∈ methC) : OwnMeth C.K 233 x f := meth_of (List.all_eq_true.mp (hK ▸ methC_ok C.w.params) (x, f) h)
variable {A : Around} {n : Nat} {σ Λ : Sto} {w : N → Str} (hw : ∀ x y, w x = w y → x = y) {D : List (Addr × Role)} {μ : Map} {S : AS}
theorem GET_self {a : Addr} {k : Nat} (rep : Rep w Λ D μ S σ) (hk : μ (.sc k) = some a) {x : Str} {P : MV → Prop} (hx : x ∈ scopeA) (hg : ∀ fs, GSc μ k (S.sc k).ch (S.sc k).sf (S.sc k).strict (S.sc k).ua (S.sc k).loc (S.sc k).cel fs → ∃ v, LK fs x v ∧ P v) {Q : MV → Sto → Prop} (h : ∀ v, P v → Q v σ) : GET C A (.ref a) x σ Q := by
 obtain ⟨o, e, fs, rfl, g⟩ := rep.at_ _ _ hk
 refine xe12 (hg fs g) fun v hv p => ?_
 exact GET_own e hv (OA_scope hK hx) (h v p)
theorem GET_bi {a : Addr} {b : BId} (rep : Rep w Λ D μ S σ) (hb : μ (.bi b) = some a) {x : Str} {P : MV → Prop} (hx : x ∈ bindA) (hg : ∀ fs, GBi w σ S b fs → ∃ v, LK fs x v ∧ P v) {Q : MV → Sto → Prop} (h : ∀ v, P v → Q v σ) : GET C A (.ref a) x σ Q := by
 obtain ⟨o, e, fs, rfl, g⟩ := rep.at_ _ _ hb
 refine xe12 (hg fs g) fun v hv p => ?_
 exact GET_own e hv (OA_bind hK hx) (h v p)
theorem GET_ct {a : Addr} {c : Nat} (rep : Rep w Λ D μ S σ) (hc : μ (.ct c) = some a) {x : Str} {P : MV → Prop} (hx : x ∈ catchA) (hg : ∀ fs, GCt w μ c (S.ct c).ch (S.ct c).nm fs → ∃ v, LK fs x v ∧ P v) {Q : MV → Sto → Prop} (h : ∀ v, P v → Q v σ) : GET C A (.ref a) x σ Q := by
 obtain ⟨o, e, fs, rfl, g⟩ := rep.at_ _ _ hc
 refine xe12 (hg fs g) fun v hv p => ?_
 exact GET_own e hv (OA_catch hK hx) (h v p)
theorem METH_scope {a f : Addr} {k : Nat} (rep : Rep w Λ D μ S σ) (hk : μ (.sc k) = some a) {x : Str} (hx : (x, f) ∈ methS) {Q : MV → List MV → Sto → Prop} (hm : x ∈ scMeths) (h : Q (.ref f) [.ref a] σ) : METH C A (.ref a) x σ Q := by
 obtain ⟨o, e, fs, rfl, g⟩ := rep.at_ _ _ hk
 exact METH_own e (g.meth x hm) (OM_scope hK hx) h
theorem METH_ct {a f : Addr} {c : Nat} (rep : Rep w Λ D μ S σ) (hc : μ (.ct c) = some a) {x : Str} (hx : (x, f) ∈ methC) {Q : MV → List MV → Sto → Prop} (hm : x ∈ scMeths) (h : Q (.ref f) [.ref a] σ) : METH C A (.ref a) x σ Q := by
 obtain ⟨o, e, fs, rfl, g⟩ := rep.at_ _ _ hc
 exact METH_own e (g.meth x hm) (OM_catch hK hx) h
include hw
theorem sbind_C (b : Bud A (n + 1)) (rep : Rep w Λ D μ S σ) {a : Addr} {k : Nat} (hk : μ (.sc k) = some a) {x : N} {Q : MV → Sto → Prop} (h : ∀ v, BV μ (bindVE (.sc k (S.sc k).own (S.sc k).sf) x) v → Q v σ) : CALLC C A (.ref 151) [.ref a, .str (w x)] σ Q := by
 refine runFn hK (f := 151) ["self", "name"] (fun U => rfl) (fun U => rfl) rfl rfl (ar2 fun U U => rfl) rfl rfl b fun FF e1 e2 hK b' => ?_
 subst e1 e2
 walk_at "S"
 refine GET_self hK rep hk (P := RV μ (.own k)) (by decide) (fun fs g => by refine xe12 g.own fun a e q => ?_; exact ⟨_, e, a, q, rfl⟩) ?_
 rintro _ ⟨d, hd, rfl⟩
 obtain ⟨_, ed, es, ep, rfl, od⟩ := rep.at_ _ _ hd
 refine CMP_in_dict hK.big ed ?_
 rw [od.mem hw]
 rw [bindVE_sc] at h
 by_cases hx : x ∈ (S.sc k).own
 ·rw [decide_eq_true hx]
  rw [if_pos hx] at h
  walk_at "S"
  refine GET_self hK rep hk (P := RV μ (.own k)) (by decide) (fun fs g => by refine xe12 g.own fun a e q => ?_; exact ⟨_, e, a, q, rfl⟩) ?_
  rintro _ ⟨d', hd', rfl⟩
  obtain rfl := si (hd.symm.trans hd')
  walk_at "S"
  refine xe12 (od.2 x hx) fun y e1 e2 => ?_
  refine SUB_dict ed e2 ?_
  exact h _ ⟨y, e1, rfl⟩
 rw [decide_eq_false hx]
 rw [if_neg hx] at h
 walk_at "S"
 refine GET_self hK rep hk (P := SV μ k (S.sc k).sf) (by decide) (fun fs g => g.slf) fun v hv => ?_
 cases hs : (S.sc k).sf with
 | none =>
  rw [hs] at hv h
  obtain rfl : v = .none := hv
  walk_at "S"
  refine if_f ?_
  walk_at "S"
  exact h _ rfl
 | some y =>
  rw [hs] at hv h
  obtain ⟨d2, hd2, rfl⟩ : RV μ (.bi (.self k)) v := hv
  walk_at "S"
  refine if_t ?_
  walk_at "S"
  refine GET_self hK rep hk (P := SV μ k (S.sc k).sf) (by decide) (fun fs g => g.slf) fun v hv => ?_
  rw [hs] at hv
  obtain ⟨d3, hd3, rfl⟩ : RV μ (.bi (.self k)) v := hv
  obtain rfl := si (hd2.symm.trans hd3)
  walk_at "S"
  refine GET_bi hK rep hd2 (P := fun v => v = .str (w y)) (by decide) (fun fs g => by refine xe12 g.name fun z e q => ?_; have : some z = some y := e.symm.trans hs; obtain rfl := si this; exact ⟨_, q, rfl⟩) ?_
  rintro _ rfl
  walk_at "S"
  by_cases hy : y = x
  ·subst hy
   rw [if_pos rfl] at h
   rw [beq_w hw, decide_eq_true rfl]
   walk_at "S"
   refine GET_self hK rep hk (P := SV μ k (S.sc k).sf) (by decide) (fun fs g => g.slf) fun v hv => ?_
   rw [hs] at hv
   walk_at "S"
   exact h _ hv
  ·rw [if_neg (by rintro ⟨⟩; exact hy rfl)] at h
   rw [beq_w hw, decide_eq_false hy]
   walk_at "S"
   exact h _ rfl
theorem cbind_C (b : Bud A (n + 1)) (rep : Rep w Λ D μ S σ) {a : Addr} {c : Nat} (hc : μ (.ct c) = some a) {x : N} {Q : MV → Sto → Prop} (h : ∀ v, BV μ (bindVE (.ct c (S.ct c).nm) x) v → Q v σ) : CALLC C A (.ref 216) [.ref a, .str (w x)] σ Q := by
 refine runFn hK (f := 216) ["self", "name"] (fun U => rfl) (fun U => rfl) rfl rfl (ar2 fun U U => rfl) rfl rfl b fun FF e1 e2 hK b' => ?_
 subst e1 e2
 walk_at "S"
 refine GET_ct hK rep hc (P := fun v => v = .str (w (S.ct c).nm)) (by decide) (fun fs g => ⟨_, g.name, rfl⟩) ?_
 rintro _ rfl
 walk_at "S"
 rw [bindVE_ct] at h
 by_cases hx : x = (S.ct c).nm
 ·rw [if_pos hx] at h
  rw [beq_w hw, decide_eq_true hx]
  walk_at "S"
  refine GET_ct hK rep hc (P := RV μ (.bi (.ct c))) (by decide) (fun fs g => by refine xe12 g.caught fun a e q => ?_; exact ⟨_, e, a, q, rfl⟩) fun v hv => ?_
  exact h _ hv
 ·rw [if_neg hx] at h
  rw [beq_w hw, decide_eq_false hx]
  walk_at "S"
  exact h _ rfl
end
end
section
section
variable {C : Cx} (hK : PK C) {A : Around} {n : Nat} {σ Λ : Sto} {w : N → Str} (hw : ∀ x y, w x = w y → x = y) {D : List (Addr × Role)} {μ : Map} {S : AS}
theorem kitS (P : Params) : kitOne (KF P) (.ref 184) (.ref 184) = some true := by kernel_rfl
theorem kitC (P : Params) : kitOne (KF P) (.ref 233) (.ref 184) = some false := by kernel_rfl
noncomputable abbrev SCS (μ : Map) : List Nat → List MV → Prop := F2 fun k v => RV μ (.sc k) v
include hK hw
theorem look_up_C' (b : Bud A (n + 2)) (rep : Rep w Λ D μ S σ) {ch : List VE} (ok : ChOk S ch) (hl : ch.length ≤ 100) {v : MV} (hv : VV μ ch v) {x : N} {Q : MV → Sto → Prop}
  (h : ∀ t pl bv xs σ', σ pl = none → Sub σ σ' → σ' t = some (.tuple [bv, .ref pl]) → σ' pl = some (.list xs) → BV μ (lookV ch x).1 bv → SCS μ (lookV ch x).2 xs → Q (.ref t) σ') : CALLC C A (.ref 244) [v, .str (w x)] σ Q := by
 refine runFn hK (f := 244) ["view", "name"] (fun U => rfl) (fun U => rfl) rfl rfl (ar2 fun U U => rfl) rfl rfl b fun FF e1 e2 hK b' => ?_
 subst e1 e2
 walk_at "S"
 refine ⟨by simp, fun pl hpl => ?_⟩
 walk_at "S"
 have sub : ∀ xs, Sub σ (σ.set pl (.list xs)) := fun xs => Sub.new hpl
 have repT : ∀ xs, Rep w Λ D μ S (σ.set pl (.list xs)) := fun xs => rep.sub (sub xs)
 refine look_loop (x := x) (F := lookV ch x) (P := fun ρ => LK ρ "name" (.str (w x)) ∧ LK ρ "passed" (.ref pl))
  (R := fun r ps ρ => ∀ v xs, LK ρ "view" v → VV μ r v → ChOk S r → r.length + ps.length ≤ 100 → SCS μ ps xs → RW _ _ _ _ _ FF ρ (σ.set pl (.list xs))) ?_ ?_ ?_ ch [] _ ⟨by rfl, by rfl⟩ (by rw [List.nil_append]) v [] (by rfl) hv ok (by simpa using hl) F2.nil
 ·rintro ps ρ ⟨p1, p2⟩ hF v xs q1 q2 - - q4
  obtain rfl : v = .none := q2
  refine rWh ?_
  walk_at "S"
  refine if_f ?_
  walk_at "S"
  refine ⟨by simp, fun t ht => ?_⟩
  walk_at "S"
  rw [hF] at h
  refine h t pl .none xs _ hpl ((sub xs).trans (Sub.new ht)) (Sto.set_self ..) (keep_new ht (Sto.set_self ..)) rfl q4
 ·rintro e r ps ρ bb ⟨p1, p2⟩ hb hF v xs q1 q2 ok hlen q4
  have fin : ∀ bv, BV μ (bindVE e x) bv → ∀ t, (σ.set pl (.list xs)) t = none → FF.Q (.ref t) ((σ.set pl (.list xs)).set t (.tuple [bv, .ref pl])) := fun bv hbv t ht => by
   rw [hF] at h
   rw [hb] at hbv
   exact h t pl bv xs _ hpl ((sub xs).trans (Sub.new ht)) (Sto.set_self ..) (keep_new ht (Sto.set_self ..)) hbv q4
  cases e with
  | sc k own sf =>
   obtain ⟨a, ha, rfl⟩ : RV μ (.sc k) v := q2
   refine xe05 ok fun o1 o2 o3 o4 o5 => ?_
   subst o2 o3
   refine rWh ?_
   walk_at "S"
   refine if_t ?_
   walk_at "S"
   refine METH_scope hK (repT xs) ha (f := 151) (by decide) (by decide) ?_
   refine ⟨by rw [hK]; rfl, ?_⟩
   walk_at "S"
   refine (sbind_C hK hw b' (repT xs) ha fun bv hbv => ?_).call
   have hbv' := hbv
   rw [hb] at hbv'
   obtain ⟨d, hd, rfl⟩ : RV μ (.bi bb) bv := hbv'
   walk_at "S"
   refine if_t ?_
   walk_at "S"
   refine ⟨by simp, fun t ht => ?_⟩
   walk_at "S"
   exact fin _ hbv t ht
  | ct c y =>
   obtain ⟨a, ha, rfl⟩ : RV μ (.ct c) v := q2
   refine xe04 ok fun o1 o2 o4 o5 => ?_
   subst o2
   refine rWh ?_
   walk_at "S"
   refine if_t ?_
   walk_at "S"
   refine METH_ct hK (repT xs) ha (f := 216) (by decide) (by decide) ?_
   refine ⟨by rw [hK]; rfl, ?_⟩
   walk_at "S"
   refine (cbind_C hK hw b' (repT xs) ha fun bv hbv => ?_).call
   have hbv' := hbv
   rw [hb] at hbv'
   obtain ⟨d, hd, rfl⟩ : RV μ (.bi bb) bv := hbv'
   walk_at "S"
   refine if_t ?_
   walk_at "S"
   refine ⟨by simp, fun t ht => ?_⟩
   walk_at "S"
   exact fin _ hbv t ht
 ·rintro e r ps ρ ⟨p1, p2⟩ hb k0 v xs q1 q2 ok hlen q4
  cases e with
  | sc k own sf =>
   obtain ⟨a, ha, rfl⟩ : RV μ (.sc k) v := q2
   refine xe05 ok fun o1 o2 o3 o4 o5 => ?_
   subst o2 o3
   refine rWh ?_
   walk_at "S"
   refine if_t ?_
   walk_at "S"
   refine METH_scope hK (repT xs) ha (f := 151) (by decide) (by decide) ?_
   refine ⟨by rw [hK]; rfl, ?_⟩
   walk_at "S"
   refine (sbind_C hK hw b' (repT xs) ha fun bv hbv => ?_).call
   rw [hb] at hbv
   obtain rfl : bv = .none := hbv
   walk_at "S"
   refine if_f ?_
   walk_at "S"
   obtain ⟨_, ea, fs, rfl, g⟩ := (repT xs).at_ _ _ ha
   refine CALL_isinst (KT_inst ea (OK_scope hK)) (hK ▸ kitS _) ?_
   walk_at "S"
   refine METH_append (Sto.set_self ..) ?_
   walk_at "S"
   refine CALL_append (Sto.set_self ..) (by have := q4.1; simp at hlen; lia) ?_
   rw [set_set]
   walk_at "S"
   refine GET_self hK (repT _) ha (P := VV μ (S.sc k).ch) (by decide) (fun fs g => g.parent) fun pv hpv => ?_
   rw [o4] at hpv
   walk_at "S"
   exact k0 _ ⟨(p1.set (by walk_at "f")).set (by walk_at "f"), (p2.set (by walk_at "f")).set (by walk_at "f")⟩ pv _ look_eq hpv o5 (by simp [passVE] at hlen ⊢; lia) (q4.snoc ⟨a, ha, rfl⟩)
  | ct c y =>
   obtain ⟨a, ha, rfl⟩ : RV μ (.ct c) v := q2
   refine xe04 ok fun o1 o2 o4 o5 => ?_
   subst o2
   refine rWh ?_
   walk_at "S"
   refine if_t ?_
   walk_at "S"
   refine METH_ct hK (repT xs) ha (f := 216) (by decide) (by decide) ?_
   refine ⟨by rw [hK]; rfl, ?_⟩
   walk_at "S"
   refine (cbind_C hK hw b' (repT xs) ha fun bv hbv => ?_).call
   rw [hb] at hbv
   obtain rfl : bv = .none := hbv
   walk_at "S"
   refine if_f ?_
   walk_at "S"
   obtain ⟨_, ea, fs, rfl, g⟩ := (repT xs).at_ _ _ ha
   refine CALL_isinst (KT_inst ea (OK_catch hK)) (hK ▸ kitC _) ?_
   walk_at "S"
   refine GET_ct hK (repT _) ha (P := VV μ (S.ct c).ch) (by decide) (fun fs g => g.parent) fun pv hpv => ?_
   rw [o4] at hpv
   walk_at "S"
   exact k0 _ ⟨(p1.set (by walk_at "f")).set (by walk_at "f"), (p2.set (by walk_at "f")).set (by walk_at "f")⟩ pv _ look_eq hpv o5 (by simp [passVE] at hlen ⊢; lia) (by show F2 _ (ps ++ []) _; rw [List.append_nil]; exact q4)
theorem look_up_C (b : Bud A (n + 2)) (rep : Rep w Λ D μ S σ) {ch : List VE} (ok : ChOk S ch) (hl : ch.length ≤ 100) {v : MV} (hv : VV μ ch v) {x : N} {Q : MV → Sto → Prop}
  (h : ∀ t pl bv xs σ', Sub σ σ' → σ' t = some (.tuple [bv, .ref pl]) → σ' pl = some (.list xs) → BV μ (lookV ch x).1 bv → SCS μ (lookV ch x).2 xs → Q (.ref t) σ') : CALLC C A (.ref 244) [v, .str (w x)] σ Q :=
 look_up_C' hK hw b rep ok hl hv fun t pl bv xs σ' U => h t pl bv xs σ'
end
end
section
theorem F2.get {α : Type} {R : α → MV → Prop} {l : List α} {xs : List MV} (h : F2 R l xs) {i : Nat} {x : α} (hi : l[i]? = some x) : ∃ v, xs[i]? = some v ∧ R x v := by
 have hlt : i < xs.length := h.1 ▸ (Gs hi).1
 exact ⟨_, List.getElem?_eq_getElem hlt, h.2 i x _ hi (List.getElem?_eq_getElem hlt)⟩
open Classical in
noncomputable def idxB : List BId → BId → Option Nat
 | [], _ => none
 | c :: r, b => if c = b then some 0 else (idxB r b).map (· + 1)
theorem search_loop {P : Loc → Prop} {R : Nat → Loc → Prop} {ys : List BId} {b : BId}
  (hit : ∀ i ρ, P ρ → ys[i]? = some b → idxB ys b = some i → R i ρ) (miss : ∀ i y ρ, P ρ → ys[i]? = some y → y ≠ b → (∀ ρ', P ρ' → R (i + 1) ρ') → R i ρ) (fin : ∀ ρ, P ρ → idxB ys b = none → R ys.length ρ) :
  ∀ (k i : Nat) (ρ : Loc), i + k = ys.length → P ρ → idxB ys b = (idxB (ys.drop i) b).map (· + i) → R i ρ
 | 0, i, ρ, e, p, q => by
  obtain rfl : i = ys.length := by lia
  rw [List.drop_length] at q
  exact fin ρ p q
 | k + 1, i, ρ, e, p, q => by
  have q1 : ys[i]? = some ys[i] := List.getElem?_eq_getElem (by lia)
  have hd : ys.drop i = ys[i] :: ys.drop (i + 1) := List.drop_eq_getElem_cons (by lia)
  rw [hd, idxB] at q
  by_cases h : ys[i] = b
  ·rw [if_pos h] at q
   rw [h] at q1
   exact hit i ρ p q1 (by rw [q]; simp)
  ·rw [if_neg h] at q
   refine miss i _ ρ p q1 h fun ρ' p' => search_loop hit miss fin k (i + 1) ρ' (by lia) p' ?_
   rw [q]
   cases idxB (ys.drop (i + 1)) b with
   | none => rfl
   | some j => simp; lia
inductive PR where
 | glob (x : N)
 | own (c : Bool) (i : Nat)
 | up (i : Nat)
 | no
noncomputable def placeV (S : AS) (ch : List VE) (x : N) : PR :=
 match lookV ch x with
 | (none, _) => .glob x
 | (some b, []) => match S.pl b with
  | some (c, i) => .own c i
  | none => .no
 | (some b, k :: _) => match idxB (S.sc k).capd b with
  | some i => .up i
  | none => .no
noncomputable def PRV (w : N → Str) (σ : Sto) : PR → MV → Prop
 | .glob x, v => ∃ t, v = .ref t ∧ σ t = some (.tuple [.str "global", .str (w x)])
 | .own c i, v => ∃ t, v = .ref t ∧ σ t = some (.tuple [.str (plStr c), .int i])
 | .up i, v => ∃ t, v = .ref t ∧ σ t = some (.tuple [.str "up", .int i])
 | .no, v => v = .none
noncomputable def constV (ch : List VE) (x : N) : Bool := match (lookV ch x).1 with
 | some (.self _) => true
 | _ => false
theorem sort_self (b : BId) : (sortOf b == "self") = (match some b with | some (.self _) => true | _ => false) := by cases b <;> rfl
section
variable {C : Cx} (hK : PK C) {A : Around} {n : Nat} {σ Λ : Sto} {w : N → Str} (hw : ∀ x y, w x = w y → x = y) {D : List (Addr × Role)} {μ : Map} {S : AS}
include hK
theorem index_among_C (b : Bud A (n + 1)) (rep : Rep w Λ D μ S σ) {a d : Addr} {bb : BId} {ys : List BId} {xs : List MV} (ha : σ a = some (.list xs)) (hys : F2 (fun b v => RV μ (.bi b) v) ys xs) (hd : μ (.bi bb) = some d) {Q : MV → Sto → Prop}
  (h : Q (.int (match idxB ys bb with | some i => (i : Int) | none => -1)) σ) : CALLC C A (.ref 298) [.ref a, .ref d] σ Q := by
 refine runFn hK (f := 298) ["some", "thing"] (fun U => rfl) (fun U => rfl) rfl rfl (ar2 fun U U => rfl) rfl rfl b fun FF e1 e2 hK b' => ?_
 subst e1 e2
 walk_at "S"
 refine CALL_enumerate ha fun en it hen hit hne => ⟨en, it, a, _, rfl, rfl, hen, hit, hne, ?_⟩
 have hlen := hys.1
 refine search_loop (ys := ys) (b := bb) (P := fun ρ => LK ρ "thing" (.ref d)) (R := fun i ρ => RN _ _ _ _ _ _ _ a i FF ρ σ) ?_ ?_ ?_ ys.length 0 _ (Nat.zero_add _) (by rfl) (by rw [List.drop_zero]; simp)
 ·intro i ρ p1 hi hid
  obtain ⟨_, hx, -⟩ := hys.get hi
  refine rFE b'.h ha (fun v' hv' => ?_) (fun hn => by exact sn (hx.symm.trans hn)) (by walk_at "=2") (by walk_at "=o")
  refine xe12 (hys.2 i bb v' hi hv') fun a2 q1 eq2 => ?_; obtain rfl := eq2
  obtain rfl := si (hd.symm.trans q1)
  walk_at "a"
  walk_at "a"
  walk_at "a"
  walk_at "S"
  obtain ⟨_, ed, fs, rfl, _⟩ := rep.at_ _ _ hd
  refine CMP_is_ref ed ed ?_
  rw [decide_eq_true rfl]
  walk_at "S"
  rw [hid] at h
  exact h
 ·intro i y ρ p1 hi hy k
  obtain ⟨_, hx, -⟩ := hys.get hi
  refine rFE b'.h ha (fun v' hv' => ?_) (fun hn => by exact sn (hx.symm.trans hn)) (by walk_at "=2") (by walk_at "=o")
  refine xe12 (hys.2 i y v' hi hv') fun a2 q1 eq2 => ?_; obtain rfl := eq2
  walk_at "a"
  walk_at "a"
  walk_at "a"
  walk_at "S"
  obtain ⟨_, ed, fs, rfl, _⟩ := rep.at_ _ _ hd
  obtain ⟨_, ed2, fs2, rfl, _⟩ := rep.at_ _ _ q1
  refine CMP_is_ref ed2 ed ?_
  rw [decide_eq_false (by rintro rfl; have := rep.inj _ _ _ q1 hd; cases this; exact hy rfl)]
  walk_at "S"
  exact k _ ((p1.set (by walk_at "f")).set (by walk_at "f"))
 ·intro ρ p1 hid
  refine rFE b'.h ha (fun v' hv' => ?_) (fun hn => ?_) (by walk_at "=2") (by walk_at "=o")
  ·exact nn ((List.getElem?_eq_none (by lia)).symm.trans hv')
  walk_at "S"
  rw [hid] at h
  exact h
include hw
theorem place_of_C (b : Bud A (n + 3)) (rep : Rep w Λ D μ S σ) {ch : List VE} (ok : ChOk S ch) (hl : ch.length ≤ 100) {v : MV} (hv : VV μ ch v) {x : N} {Q : MV → Sto → Prop}
  (h : ∀ u σ', Sub σ σ' → PRV w σ' (placeV S ch x) u → Q u σ') : CALLC C A (.ref 251) [v, .str (w x)] σ Q := by
 refine runFn hK (f := 251) ["view", "name"] (fun U => rfl) (fun U => rfl) rfl rfl (ar2 fun U U => rfl) rfl rfl b fun FF e1 e2 hK b' => ?_
 subst e1 e2
 walk_at "a"
 walk_at "S"
 refine (look_up_C hK hw b' rep ok hl hv fun t pl bv xs σ' sub et epl hbv hxs => ?_).call
 refine rAT b'.h et ?_ (by walk_at "=i") (by walk_at "=o")
 walk_at "a"
 walk_at "a"
 walk_at "a"
 have rep' := rep.sub sub
 have hlen := lookV_len ch x
 unfold placeV at h
 generalize lookV ch x = LV at h hbv hxs hlen
 obtain ⟨o, ps⟩ := LV
 walk_at "S"
 cases o with
 | none =>
  obtain rfl : bv = .none := hbv
  refine if_t ?_
  walk_at "S"
  refine ⟨by simp, fun t2 ht2 => ?_⟩
  walk_at "S"
  exact h _ _ (sub.trans (Sub.new ht2)) ⟨t2, rfl, Sto.set_self ..⟩
 | some bb =>
  obtain ⟨d, hd, rfl⟩ : RV μ (.bi bb) bv := hbv
  refine if_f ?_
  walk_at "S"
  refine CALL_len_list epl (by have := hxs.1; simp only at this hlen; lia) ?_
  walk_at "S"
  cases ps with
  | nil =>
   obtain rfl := hxs.nil_of
   refine if_t ?_
   walk_at "S"
   refine GET_bi hK rep' hd (P := PV σ' (S.pl bb)) (by decide) (fun fs g => g.place) fun u hu => ?_
   refine h _ _ sub ?_
   dsimp only
   cases hp : S.pl bb with
   | none => rw [hp] at hu; exact hu
   | some q => rw [hp] at hu; exact hu
  | cons k ps =>
   obtain ⟨kv, ys, rfl, ⟨ka, hka, rfl⟩, _⟩ := hxs.left
   refine if_b (fun hc => by simp at hc; lia) (fun U => ?_)
   walk_at "S"
   refine SUB_list epl (by decide) (by decide) rfl ?_
   walk_at "S"
   refine GET_self hK rep' hka (P := RV μ (.capd k)) (by decide) (fun fs g => by refine xe12 g.capd fun a e q => ?_; exact ⟨_, e, a, q, rfl⟩) ?_
   rintro _ ⟨ca, hca, rfl⟩
   obtain ⟨_, ha, cs, rfl, hys⟩ := rep'.at_ _ _ hca
   walk_at "S"
   refine CALL_enumerate ha fun en it hen hit hne => ⟨en, it, ca, _, rfl, rfl, hen, hit, hne, ?_⟩
   have hlen := hys.1
   refine search_loop (ys := (S.sc k).capd) (b := bb) (P := fun ρ => LK ρ "binding" (.ref d)) (R := fun i ρ => RN _ _ _ _ _ _ _ ca i FF ρ σ') ?_ ?_ ?_ (S.sc k).capd.length 0 _ (Nat.zero_add _) (by rfl) (by rw [List.drop_zero]; simp)
   ·intro i ρ p1 hi hid
    obtain ⟨_, hx, -⟩ := hys.get hi
    refine rFE b'.h ha (fun v' hv' => ?_) (fun hn => by exact sn (hx.symm.trans hn)) (by walk_at "=2") (by walk_at "=o")
    refine xe12 (hys.2 i bb v' hi hv') fun a2 q1 eq2 => ?_; obtain rfl := eq2
    obtain rfl := si (hd.symm.trans q1)
    walk_at "a"
    walk_at "a"
    walk_at "a"
    walk_at "S"
    obtain ⟨_, ed, fs, rfl, _⟩ := rep'.at_ _ _ hd
    refine CMP_is_ref ed ed ?_
    rw [decide_eq_true rfl]
    walk_at "S"
    refine ⟨by simp, fun t2 ht2 => ?_⟩
    walk_at "S"
    refine h _ _ (sub.trans (Sub.new ht2)) ?_
    dsimp only
    rw [hid]
    exact ⟨t2, rfl, Sto.set_self ..⟩
   ·intro i y ρ p1 hi hy k
    obtain ⟨_, hx, -⟩ := hys.get hi
    refine rFE b'.h ha (fun v' hv' => ?_) (fun hn => by exact sn (hx.symm.trans hn)) (by walk_at "=2") (by walk_at "=o")
    refine xe12 (hys.2 i y v' hi hv') fun a2 q1 eq2 => ?_; obtain rfl := eq2
    walk_at "a"
    walk_at "a"
    walk_at "a"
    walk_at "S"
    obtain ⟨_, ed, fs, rfl, _⟩ := rep'.at_ _ _ hd
    obtain ⟨_, ed2, fs2, rfl, _⟩ := rep'.at_ _ _ q1
    refine CMP_is_ref ed2 ed ?_
    rw [decide_eq_false (by rintro rfl; have := rep'.inj _ _ _ q1 hd; cases this; exact hy rfl)]
    walk_at "S"
    exact k _ ((p1.set (by walk_at "f")).set (by walk_at "f"))
   ·intro ρ p1 hid
    refine rFE b'.h ha (fun v' hv' => ?_) (fun hn => ?_) (by walk_at "=2") (by walk_at "=o")
    ·exact nn ((List.getElem?_eq_none (by lia)).symm.trans hv')
    walk_at "S"
    refine h _ _ sub ?_
    dsimp only
    rw [hid]
    rfl
theorem find_S (b : Bud A (n + 4)) (rep : Rep w Λ D μ S σ) {ch : List VE} (ok : ChOk S ch) (hl : ch.length ≤ 100) {v : MV} (hv : VV μ ch v) {x : N} {Q : MV → Sto → Prop}
  (h : ∀ u σ', Sub σ σ' → PRV w σ' (placeV S ch x) u → Q u σ') : CALLC C A (.ref 158) [v, .str (w x)] σ Q := by
 refine runFn hK (f := 158) ["self", "name"] (fun U => rfl) (fun U => rfl) rfl rfl (ar2 fun U U => rfl) rfl rfl b fun FF e1 e2 hK b' => ?_
 subst e1 e2
 walk_at "S"
 refine (place_of_C hK hw b' rep ok hl hv fun u σ' s1 s2 => ?_).call
 exact h u σ' s1 s2
theorem find_K (b : Bud A (n + 4)) (rep : Rep w Λ D μ S σ) {ch : List VE} (ok : ChOk S ch) (hl : ch.length ≤ 100) {v : MV} (hv : VV μ ch v) {x : N} {Q : MV → Sto → Prop}
  (h : ∀ u σ', Sub σ σ' → PRV w σ' (placeV S ch x) u → Q u σ') : CALLC C A (.ref 223) [v, .str (w x)] σ Q := by
 refine runFn hK (f := 223) ["self", "name"] (fun U => rfl) (fun U => rfl) rfl rfl (ar2 fun U U => rfl) rfl rfl b fun FF e1 e2 hK b' => ?_
 subst e1 e2
 walk_at "S"
 refine (place_of_C hK hw b' rep ok hl hv fun u σ' s1 s2 => ?_).call
 exact h u σ' s1 s2
end
end
section
structure Cmp (X Y : Sc) (k : Nat) (r : Role) : Prop where
 sc : r = .sc k ∨ (X.ch = Y.ch ∧ X.sf = Y.sf ∧ X.strict = Y.strict ∧ X.ua = Y.ua ∧ X.loc = Y.loc ∧ X.cel = Y.cel)
 par : r = .par k ∨ X.ps = Y.ps
 own : r = .own k ∨ X.own = Y.own
 kids : r = .kids k ∨ X.kids = Y.kids
 cats : r = .cats k ∨ X.cats = Y.cats
 caps : r = .caps k ∨ X.caps = Y.caps
 capd : r = .capd k ∨ X.capd = Y.capd
 pps : r = .pps k ∨ X.pps = Y.pps
 sf : X.sf = Y.sf
theorem upd_at {β : Type} (f : Sc → β) {s : Nat → Sc} {k : Nat} {X : Sc} (h : f X = f (s k)) (k' : Nat) : f (upd s k X k') = f (s k') := by
 by_cases e : k' = k
 ·subst e; rw [upd_self, h]
 ·rw [upd_ne _ _ e]
section
variable {w : N → Str} {μ : Map} {S : AS} {σ Λ : Sto} {D : List (Addr × Role)}
theorem nmOf_upd {X : Sc} {k : Nat} (h : X.sf = (S.sc k).sf) (b : BId) : nmOf { S with sc := upd S.sc k X } b = nmOf S b := by
 cases b with
 | self k' => exact upd_at Sc.sf h k'
 | _ => rfl
theorem Good.updSc {X : Sc} {k : Nat} {r r' : Role} {o : MO} (hr : r' ≠ r) (c : Cmp X (S.sc k) k r) (g : Good w μ S σ r' o) : Good w μ { S with sc := upd S.sc k X } σ r' o := by
 cases r' with
 | sc k' =>
  refine xe12 g fun fs e g => ?_
  refine ⟨fs, e, ?_⟩
  by_cases hk : k' = k
  ·subst hk
   rcases c.sc with c | ⟨c1, c2, c3, c4, c5, c6⟩
   ·exact absurd c.symm hr
   ·show GSc μ k' (upd S.sc k' X k').ch (upd S.sc k' X k').sf (upd S.sc k' X k').strict (upd S.sc k' X k').ua (upd S.sc k' X k').loc (upd S.sc k' X k').cel fs
    rw [upd_self, c1, c2, c3, c4, c5, c6]; exact g
  ·show GSc μ k' (upd S.sc k X k').ch (upd S.sc k X k').sf (upd S.sc k X k').strict (upd S.sc k X k').ua (upd S.sc k X k').loc (upd S.sc k X k').cel fs
   rw [upd_ne _ _ hk]; exact g
 | par k' =>
  show o = .list ((upd S.sc k X k').ps.map _)
  by_cases hk : k' = k
  ·subst hk
   rcases c.par with c | c
   ·exact absurd c.symm hr
   ·rw [upd_self, c]; exact g
  ·rw [upd_ne _ _ hk]; exact g
 | own k' =>
  show ∃ es ep, o = .dict es ep ∧ OwnD w μ k' (upd S.sc k X k').own es
  by_cases hk : k' = k
  ·subst hk
   rcases c.own with c | c
   ·exact absurd c.symm hr
   ·rw [upd_self, c]; exact g
  ·rw [upd_ne _ _ hk]; exact g
 | kids k' =>
  show ∃ xs, o = .list xs ∧ F2 _ (upd S.sc k X k').kids xs
  by_cases hk : k' = k
  ·subst hk
   rcases c.kids with c | c
   ·exact absurd c.symm hr
   ·rw [upd_self, c]; exact g
  ·rw [upd_ne _ _ hk]; exact g
 | cats k' =>
  show ∃ xs, o = .list xs ∧ F2 _ (upd S.sc k X k').cats xs
  by_cases hk : k' = k
  ·subst hk
   rcases c.cats with c | c
   ·exact absurd c.symm hr
   ·rw [upd_self, c]; exact g
  ·rw [upd_ne _ _ hk]; exact g
 | caps k' =>
  show ∃ xs, o = .list xs ∧ F2 _ (upd S.sc k X k').caps xs
  by_cases hk : k' = k
  ·subst hk
   rcases c.caps with c | c
   ·exact absurd c.symm hr
   ·rw [upd_self, c]; exact g
  ·rw [upd_ne _ _ hk]; exact g
 | capd k' =>
  show ∃ xs, o = .list xs ∧ F2 _ (upd S.sc k X k').capd xs
  by_cases hk : k' = k
  ·subst hk
   rcases c.capd with c | c
   ·exact absurd c.symm hr
   ·rw [upd_self, c]; exact g
  ·rw [upd_ne _ _ hk]; exact g
 | pps k' =>
  show ∃ xs, o = .list xs ∧ F2 _ (upd S.sc k X k').pps xs
  by_cases hk : k' = k
  ·subst hk
   rcases c.pps with c | c
   ·exact absurd c.symm hr
   ·rw [upd_self, c]; exact g
  ·rw [upd_ne _ _ hk]; exact g
 | bi b =>
  refine xe12 g fun fs e g => ?_
  exact ⟨fs, e, by rw [nmOf_upd c.sf]; exact g.name, g.sort, g.cap, g.place, g.len⟩
 | ct c => exact g
theorem Good.updB {S' : AS} {b : BId} {r' : Role} {o : MO} (hr : r' ≠ .bi b) (h1 : S'.sc = S.sc) (h2 : S'.ct = S.ct) (h3 : ∀ x, x ≠ b → S'.cap x = S.cap x ∧ S'.pl x = S.pl x) (g : Good w μ S σ r' o) : Good w μ S' σ r' o := by
 cases r' with
 | bi x =>
  refine xe12 g fun fs e g => ?_
  refine xe02 (h3 x (by rintro rfl; exact hr rfl)) fun e1 e2 => ?_
  have en : nmOf S' x = nmOf S x := by cases x <;> simp [nmOf, h1, h2]
  exact ⟨fs, e, by rw [en]; exact g.name, g.sort, by rw [e1]; exact g.cap, by rw [e2]; exact g.place, g.len⟩
 | ct c => unfold Good at *; rw [h2]; exact g
 | _ => unfold Good at *; rw [h1]; exact g
end
noncomputable def KeepN (σ σ' : Sto) : Prop := ∀ a o, o.isInst = false → σ a = some o → σ' a = some o
theorem KeepN.trans {σ σ' σ'' : Sto} (h : KeepN σ σ') (h' : KeepN σ' σ'') : KeepN σ σ'' := fun a o i e => h' a o i (h a o i e)
theorem KeepN.refl {σ : Sto} : KeepN σ σ := fun U U U e => e
theorem KeepN.sub {σ σ' : Sto} (h : Sub σ σ') : KeepN σ σ' := fun a o U e => h a o e
theorem KeepN.set {σ : Sto} {a D : Addr} {fs : Loc} {o : MO} (e : σ a = some (.inst D fs)) : KeepN σ (σ.set a o) := fun b x i q => keep_ne (by rintro rfl; obtain rfl := si (e.symm.trans q); exact tf i) q
noncomputable def giveA (S : AS) (k : Nat) (b : BId) : AS :=
 if S.cap b then { S with pl := upd S.pl b (some (true, (S.sc k).cel)), sc := upd S.sc k { S.sc k with cel := (S.sc k).cel + 1 } }
 else { S with pl := upd S.pl b (some (false, (S.sc k).loc)), sc := upd S.sc k { S.sc k with loc := (S.sc k).loc + 1 } }
section
variable {C : Cx} (hK : PK C) {A : Around} {n : Nat} {σ Λ : Sto} {w : N → Str} {D : List (Addr × Role)} {μ : Map} {S : AS}
include hK
theorem SETA_place {a t : Addr} {b : BId} {c : Bool} {i : Nat} (rep : Rep w Λ D μ S σ) (ha : μ (.bi b) = some a) (ht : σ t = some (.tuple [.str (plStr c), .int i])) {Q : Sto → Prop}
  (h : ∀ σ', Rep w Λ D μ { S with pl := upd S.pl b (some (c, i)) } σ' → Fr Λ μ σ μ σ' → KeepN σ σ' → Q σ') : SETA C A (.ref a) "place" (.ref t) σ Q := by
 obtain ⟨_, e, fs, rfl, g⟩ := rep.at_ _ _ ha
 refine SETA_own e (by have := g.len; lia) rfl (OS_bind hK (by decide)) ?_
 refine h _ (rep.set ha rfl rfl (fun tp => ⟨_, rfl, ?_⟩) fun r' o' hr => Good.updB hr rfl rfl fun x hx => ⟨rfl, upd_ne _ _ hx⟩) (Fr.set ha (rep.nt ha)) (KeepN.set e)
 refine ⟨?_, g.sort.set (by walk_at "f"), g.cap.set (by walk_at "f"), ⟨_, look_eq, ?_⟩, ?_⟩
 ·refine xe12 g.name fun x e1 e2 => ?_; exact ⟨x, e1, e2.set (by walk_at "f")⟩
 ·show PV _ (upd S.pl b (some (c, i)) b) _
  rw [upd_self]; exact ⟨t, rfl, tp _ _ ht⟩
 ·have := g.len
  refine xe12 g.place fun v e1 U => ?_
  rw [setL_length, show fs.lookup ("place" : Str) = some v from e1]; exact this
theorem SETA_cap {a : Addr} {b : BId} (rep : Rep w Λ D μ S σ) (ha : μ (.bi b) = some a) {Q : Sto → Prop}
  (h : ∀ σ', Rep w Λ D μ { S with cap := upd S.cap b true } σ' → Fr Λ μ σ μ σ' → KeepN σ σ' → Q σ') : SETA C A (.ref a) "is_captured" (.bool true) σ Q := by
 obtain ⟨_, e, fs, rfl, g⟩ := rep.at_ _ _ ha
 refine SETA_own e (by have := g.len; lia) rfl (OS_bind hK (by decide)) ?_
 refine h _ (rep.set ha rfl rfl (fun tp => ⟨_, rfl, ?_⟩) fun r' o' hr => Good.updB hr rfl rfl fun x hx => ⟨upd_ne _ _ hx, rfl⟩) (Fr.set ha (rep.nt ha)) (KeepN.set e)
 refine ⟨?_, g.sort.set (by walk_at "f"), ?_, ?_, ?_⟩
 ·refine xe12 g.name fun x e1 e2 => ?_; exact ⟨x, e1, e2.set (by walk_at "f")⟩
 ·show LK _ _ (.bool (upd S.cap b true b))
  rw [upd_self]; exact look_eq
 ·refine xe12 g.place fun v e1 e2 => ?_
  exact ⟨v, e1.set (by walk_at "f"), e2.mono tp⟩
 ·have := g.len
  rw [setL_length, show fs.lookup ("is_captured" : Str) = some _ from g.cap]; exact this
theorem SETA_cel {a : Addr} {k : Nat} {m : Nat} (rep : Rep w Λ D μ S σ) (ha : μ (.sc k) = some a) {Q : Sto → Prop}
  (h : ∀ σ', Rep w Λ D μ { S with sc := upd S.sc k { S.sc k with cel := m } } σ' → Fr Λ μ σ μ σ' → KeepN σ σ' → Q σ') : SETA C A (.ref a) "cell_count" (.int m) σ Q := by
 obtain ⟨_, e, fs, rfl, g⟩ := rep.at_ _ _ ha
 refine SETA_own e (by have := g.len; lia) rfl (OS_scope hK (by decide)) ?_
 refine h _ (rep.set ha rfl rfl (fun tp => ⟨_, rfl, ?_⟩) fun r' o' hr => Good.updSc hr ⟨.inl rfl, .inr rfl, .inr rfl, .inr rfl, .inr rfl, .inr rfl, .inr rfl, .inr rfl, rfl⟩) (Fr.set ha (rep.nt ha)) (KeepN.set e)
 show GSc μ k (upd S.sc k _ k).ch (upd S.sc k _ k).sf (upd S.sc k _ k).strict (upd S.sc k _ k).ua (upd S.sc k _ k).loc (upd S.sc k _ k).cel _
 rw [upd_self]
 obtain ⟨⟨v1, e1, q1⟩, ⟨v2, e2, q2⟩, ⟨v3, e3, q3⟩, ⟨v4, e4, q4⟩, ⟨v5, e5, q5⟩, ⟨v6, e6, q6⟩, ⟨v7, e7, q7⟩, ⟨v8, e8, q8⟩, ⟨v9, e9, q9⟩, e10, e11, e12, e13, e14, e15⟩ := g
 refine ⟨⟨v1, e1.set (by walk_at "f"), q1⟩, ⟨v2, e2.set (by walk_at "f"), q2⟩, ⟨v3, e3.set (by walk_at "f"), q3⟩, ⟨v4, e4.set (by walk_at "f"), q4⟩, ⟨v5, e5.set (by walk_at "f"), q5⟩, ⟨v6, e6.set (by walk_at "f"), q6⟩, ⟨v7, e7.set (by walk_at "f"), q7⟩, ⟨v8, e8.set (by walk_at "f"), q8⟩, ⟨v9, e9.set (by walk_at "f"), q9⟩,
  e10.set (by walk_at "f"), e11.set (by walk_at "f"), e12.set (by walk_at "f"), look_eq, ?_, fun x hx => ?_⟩
 ·rw [setL_length, show fs.lookup ("cell_count" : Str) = some _ from e13]; exact e14
 ·exact look_ne (beq_eq_false_iff_ne.mpr fun q => by subst q; revert hx; decide) (e15 x hx)
theorem SETA_loc {a : Addr} {k : Nat} {m : Nat} (rep : Rep w Λ D μ S σ) (ha : μ (.sc k) = some a) {Q : Sto → Prop}
  (h : ∀ σ', Rep w Λ D μ { S with sc := upd S.sc k { S.sc k with loc := m } } σ' → Fr Λ μ σ μ σ' → KeepN σ σ' → Q σ') : SETA C A (.ref a) "local_count" (.int m) σ Q := by
 obtain ⟨_, e, fs, rfl, g⟩ := rep.at_ _ _ ha
 refine SETA_own e (by have := g.len; lia) rfl (OS_scope hK (by decide)) ?_
 refine h _ (rep.set ha rfl rfl (fun tp => ⟨_, rfl, ?_⟩) fun r' o' hr => Good.updSc hr ⟨.inl rfl, .inr rfl, .inr rfl, .inr rfl, .inr rfl, .inr rfl, .inr rfl, .inr rfl, rfl⟩) (Fr.set ha (rep.nt ha)) (KeepN.set e)
 show GSc μ k (upd S.sc k _ k).ch (upd S.sc k _ k).sf (upd S.sc k _ k).strict (upd S.sc k _ k).ua (upd S.sc k _ k).loc (upd S.sc k _ k).cel _
 rw [upd_self]
 obtain ⟨⟨v1, e1, q1⟩, ⟨v2, e2, q2⟩, ⟨v3, e3, q3⟩, ⟨v4, e4, q4⟩, ⟨v5, e5, q5⟩, ⟨v6, e6, q6⟩, ⟨v7, e7, q7⟩, ⟨v8, e8, q8⟩, ⟨v9, e9, q9⟩, e10, e11, e12, e13, e14, e15⟩ := g
 refine ⟨⟨v1, e1.set (by walk_at "f"), q1⟩, ⟨v2, e2.set (by walk_at "f"), q2⟩, ⟨v3, e3.set (by walk_at "f"), q3⟩, ⟨v4, e4.set (by walk_at "f"), q4⟩, ⟨v5, e5.set (by walk_at "f"), q5⟩, ⟨v6, e6.set (by walk_at "f"), q6⟩, ⟨v7, e7.set (by walk_at "f"), q7⟩, ⟨v8, e8.set (by walk_at "f"), q8⟩, ⟨v9, e9.set (by walk_at "f"), q9⟩,
  e10.set (by walk_at "f"), e11.set (by walk_at "f"), look_eq, e13.set (by walk_at "f"), ?_, fun x hx => ?_⟩
 ·rw [setL_length, show fs.lookup ("local_count" : Str) = some _ from e12]; exact e14
 ·exact look_ne (beq_eq_false_iff_ne.mpr fun q => by subst q; revert hx; decide) (e15 x hx)
theorem give_place_C (b : Bud A (n + 1)) (rep : Rep w Λ D μ S σ) {a d : Addr} {k : Nat} {bb : BId} (ha : μ (.sc k) = some a) (hd : μ (.bi bb) = some d) {Q : MV → Sto → Prop}
  (h : ∀ σ', Rep w Λ D μ (giveA S k bb) σ' → Fr Λ μ σ μ σ' → KeepN σ σ' → Q .none σ') : CALLC C A (.ref 284) [.ref a, .ref d] σ Q := by
 refine runFn hK (f := 284) ["scope", "binding"] (fun U => rfl) (fun U => rfl) rfl rfl (ar2 fun U U => rfl) rfl rfl b fun FF e1 e2 hK b' => ?_
 subst e1 e2
 walk_at "S"
 refine GET_bi hK rep hd (P := fun v => v = .bool (S.cap bb)) (by decide) (fun fs g => ⟨_, g.cap, rfl⟩) ?_
 rintro _ rfl
 refine TRU_bool ?_
 unfold giveA at h
 refine if_b (fun hc => ?_) (fun hc => ?_)
 ·rw [hc] at h
  rw [if_pos rfl] at h
  walk_at "S"
  refine GET_self hK rep ha (P := fun v => v = .int (S.sc k).cel) (by decide) (fun fs g => ⟨_, g.cel, rfl⟩) ?_
  rintro _ rfl
  walk_at "S"
  refine ⟨by simp, fun t ht => ?_⟩
  walk_at "S"
  have rep1 := rep.sub (Sub.new (o := .tuple [.str "cell", .int (S.sc k).cel]) ht)
  refine SETA_place hK rep1 hd (c := true) (Sto.set_self ..) fun σ2 rep2 fr2 kn2 => ?_
  walk_at "S"
  refine GET_self hK rep2 ha (P := fun v => v = .int (S.sc k).cel) (by decide) (fun fs g => ⟨_, g.cel, rfl⟩) ?_
  rintro _ rfl
  walk_at "S"
  refine INP_add ?_
  refine SETA_cel hK rep2 ha (m := (S.sc k).cel + 1) fun σ3 rep3 fr3 kn3 => ?_
  walk_at "S"
  exact h σ3 rep3 (((Fr.sub (Sub.new ht)).trans fr2).trans fr3) (((KeepN.sub (Sub.new ht)).trans kn2).trans kn3)
 ·rw [hc] at h
  rw [if_neg nofun] at h
  walk_at "S"
  refine GET_self hK rep ha (P := fun v => v = .int (S.sc k).loc) (by decide) (fun fs g => ⟨_, g.loc, rfl⟩) ?_
  rintro _ rfl
  walk_at "S"
  refine ⟨by simp, fun t ht => ?_⟩
  walk_at "S"
  have rep1 := rep.sub (Sub.new (o := .tuple [.str "local", .int (S.sc k).loc]) ht)
  refine SETA_place hK rep1 hd (c := false) (Sto.set_self ..) fun σ2 rep2 fr2 kn2 => ?_
  walk_at "S"
  refine GET_self hK rep2 ha (P := fun v => v = .int (S.sc k).loc) (by decide) (fun fs g => ⟨_, g.loc, rfl⟩) ?_
  rintro _ rfl
  walk_at "S"
  refine INP_add ?_
  refine SETA_loc hK rep2 ha (m := (S.sc k).loc + 1) fun σ3 rep3 fr3 kn3 => ?_
  walk_at "S"
  exact h σ3 rep3 (((Fr.sub (Sub.new ht)).trans fr2).trans fr3) (((KeepN.sub (Sub.new ht)).trans kn2).trans kn3)
end
end
section
theorem down_fold {β γ : Type} {P : Loc → Prop} {R : Nat → Loc → β → Prop} {ys : List γ} {f : β → γ → β}
  (step : ∀ j y ρ s, P ρ → ys[j]? = some y → (∀ ρ', P ρ' → R j ρ' (f s y)) → R (j + 1) ρ s) :
  ∀ (i : Nat) (ρ : Loc) (s : β), i ≤ ys.length → P ρ → (∀ ρ', P ρ' → R 0 ρ' ((ys.take i).reverse.foldl f s)) → R i ρ s
 | 0, ρ, s, _, p, k => k ρ p
 | j + 1, ρ, s, hi, p, k => by
  have q : ys[j]? = some ys[j] := List.getElem?_eq_getElem (by lia)
  refine step j _ ρ s p q fun ρ' p' => down_fold step j ρ' _ (by lia) p' fun ρ'' p'' => ?_
  have e : (ys.take (j + 1)).reverse = ys[j] :: (ys.take j).reverse := by rw [List.take_add_one, q, Option.toList_some, List.reverse_append]; rfl
  rw [e, List.foldl_cons] at k
  exact k ρ'' p''
noncomputable def plIdx (S : AS) (b : BId) : Nat := ((S.pl b).getD (false, 0)).2
noncomputable def setSc (S : AS) (k : Nat) (f : Sc → Sc) : AS := { S with sc := upd S.sc k (f (S.sc k)) }
theorem setSc_self {S : AS} {k : Nat} {f : Sc → Sc} : (setSc S k f).sc k = f (S.sc k) := upd_self ..
theorem setSc_ne {S : AS} {k k' : Nat} {f : Sc → Sc} (h : k' ≠ k) : (setSc S k f).sc k' = S.sc k' := upd_ne _ _ h
noncomputable def capAdd (S : AS) (k : Nat) (b : BId) (e : Bool × Nat) : AS := setSc (setSc S k fun s => { s with capd := s.capd ++ [b] }) k fun s => { s with caps := s.caps ++ [e] }
noncomputable def capE (S : AS) (b : BId) : Option Nat → Bool × Nat
 | none => (true, plIdx S b)
 | some i => (false, i)
noncomputable def capStep (b : BId) (q : AS × Option Nat) (k : Nat) : AS × Option Nat :=
 match idxB (q.1.sc k).capd b with
 | some i => (q.1, some i)
 | none => (capAdd q.1 k b (capE q.1 b q.2), some (q.1.sc k).capd.length)
theorem capStep_old {b : BId} {T : AS} {ah : Option Nat} {k i : Nat} (h : idxB (T.sc k).capd b = some i) : capStep b (T, ah) k = (T, some i) := by unfold capStep; dsimp only; rw [h]
theorem capStep_new {b : BId} {T : AS} {ah : Option Nat} {k : Nat} (h : idxB (T.sc k).capd b = none) : capStep b (T, ah) k = (capAdd T k b (capE T b ah), some (T.sc k).capd.length) := by unfold capStep; dsimp only; rw [h]
noncomputable def captureA (S : AS) (b : BId) (ps : List Nat) : AS := (ps.reverse.foldl (capStep b) (S, none)).1
noncomputable def Sz (S : AS) (B : Nat) : Prop := ∀ k, (S.sc k).capd.length ≤ B ∧ (S.sc k).caps.length ≤ B
theorem Sz.mono {S : AS} {B B' : Nat} (h : Sz S B) (hb : B ≤ B') : Sz S B' := fun k => ⟨Nat.le_trans (h k).1 hb, Nat.le_trans (h k).2 hb⟩
theorem capAdd_sz {T : AS} {k : Nat} {b : BId} {e : Bool × Nat} {B : Nat} (h : Sz T B) : Sz (capAdd T k b e) (B + 1) := fun k' => by
 unfold capAdd
 by_cases q : k' = k
 ·subst q
  rw [setSc_self, setSc_self]
  have := h k'
  simp only [List.length_append, List.length_singleton]
  lia
 ·rw [setSc_ne q, setSc_ne q]
  have := h k'
  lia
theorem capStep_sz {b : BId} {q : AS × Option Nat} {k B : Nat} (h : Sz q.1 B) : Sz (capStep b q k).1 (B + 1) := by
 unfold capStep
 split
 ·exact h.mono (Nat.le_succ _)
 ·exact capAdd_sz h
theorem capStep_pl {b : BId} {q : AS × Option Nat} {k : Nat} : (capStep b q k).1.pl = q.1.pl := by unfold capStep; split <;> rfl
theorem cmp_capd {X : Sc} {k : Nat} {l : List BId} : Cmp { X with capd := l } X k (.capd k) := ⟨.inr ⟨rfl, rfl, rfl, rfl, rfl, rfl⟩, .inr rfl, .inr rfl, .inr rfl, .inr rfl, .inr rfl, .inl rfl, .inr rfl, rfl⟩
theorem cmp_caps {X : Sc} {k : Nat} {l : List (Bool × Nat)} : Cmp { X with caps := l } X k (.caps k) := ⟨.inr ⟨rfl, rfl, rfl, rfl, rfl, rfl⟩, .inr rfl, .inr rfl, .inr rfl, .inr rfl, .inl rfl, .inr rfl, .inr rfl, rfl⟩
theorem cmp_pps {X : Sc} {k : Nat} {l : List (Option (Bool × Nat))} : Cmp { X with pps := l } X k (.pps k) := ⟨.inr ⟨rfl, rfl, rfl, rfl, rfl, rfl⟩, .inr rfl, .inr rfl, .inr rfl, .inr rfl, .inr rfl, .inr rfl, .inl rfl, rfl⟩
theorem cmp_kids {X : Sc} {k : Nat} {l : List Nat} : Cmp { X with kids := l } X k (.kids k) := ⟨.inr ⟨rfl, rfl, rfl, rfl, rfl, rfl⟩, .inr rfl, .inr rfl, .inl rfl, .inr rfl, .inr rfl, .inr rfl, .inr rfl, rfl⟩
theorem cmp_cats {X : Sc} {k : Nat} {l : List Nat} : Cmp { X with cats := l } X k (.cats k) := ⟨.inr ⟨rfl, rfl, rfl, rfl, rfl, rfl⟩, .inr rfl, .inr rfl, .inr rfl, .inl rfl, .inr rfl, .inr rfl, .inr rfl, rfl⟩
section
variable {C : Cx} (hK : PK C) {A : Around} {n : Nat} {σ Λ : Sto} {w : N → Str} {D : List (Addr × Role)} {μ : Map} {S : AS}
include hK
theorem capture_C (b : Bud A (n + 2)) (rep : Rep w Λ D μ S σ) {d p : Addr} {bb : BId} {ps : List Nat} {xs : List MV} {c0 : Bool} {i0 B : Nat} (hd : μ (.bi bb) = some d) (hp : S.pl bb = some (c0, i0)) (ep : σ p = some (.list xs)) (op : Off μ p) (lp : Λ p = none) (hxs : SCS μ ps xs)
  (hsz : Sz S B) (hB : B + ps.length ≤ 500000) {Q : MV → Sto → Prop} (h : ∀ σ', Rep w Λ D μ (captureA S bb ps) σ' → Fr Λ μ σ μ σ' → Q .none σ') : CALLC C A (.ref 305) [.ref d, .ref p] σ Q := by
 refine runFn hK (f := 305) ["binding", "passed"] (fun U => rfl) (fun U => rfl) rfl rfl (ar2 fun U U => rfl) rfl rfl b fun FF e1 e2 hK b' => ?_
 subst e1 e2
 walk_at "S"
 refine CALL_reversed ep fun rv hrv => ?_
 refine ITR_rev hrv ?_
 have hlen := hxs.1
 rw [← hlen]
 refine down_fold (ys := ps) (f := capStep bb) (P := fun ρ => LK ρ "binding" (.ref d))
  (R := fun i ρ (q : AS × Option Nat) => ∀ σ', Rep w Λ D μ q.1 σ' → Fr Λ μ σ μ σ' → i ≤ ps.length → Sz q.1 (B + (ps.length - i)) → q.1.pl = S.pl → LK ρ "is_first" (.bool q.2.isNone) → (∀ j, q.2 = some j → LK ρ "ahead" (.int j)) → RF _ _ _ _ _ (.rev p ((i : Int) - 1)) FF ρ σ') ?_ ps.length _ (S, none) (Nat.le_refl _) (by rfl) ?_ σ rep Fr.refl (Nat.le_refl _) ?_ rfl (by rfl) ?_
 ·rintro j k ρ ⟨T, ah⟩ p1 hj k0 σ1 rep1 fr1 hle hsz1 hpl l1 l2
  have rep1 : Rep w Λ D μ T σ1 := rep1
  have hsz1 : Sz T (B + (ps.length - (j + 1))) := hsz1
  have hpl : T.pl = S.pl := hpl
  obtain ⟨_, hx, ka, hka, rfl⟩ := hxs.get hj
  have ep1 := (fr1.k p _ lp op ep).1
  refine rFR b'.h ep1 (fun j' v hj' hv => ?_) (fun hn => by lia) (by lia)
  obtain rfl : j' = j := by lia
  obtain rfl := si (hx.symm.trans hv)
  walk_at "a"
  walk_at "S"
  refine GET_self hK rep1 hka (P := RV μ (.capd k)) (by decide) (fun fs g => by refine xe12 g.capd fun a e q => ?_; exact ⟨_, e, a, q, rfl⟩) ?_
  rintro _ ⟨ca, hca, rfl⟩
  obtain ⟨_, eca, cs, rfl, hys⟩ := rep1.at_ _ _ hca
  walk_at "S"
  refine (index_among_C hK b' rep1 eca hys hd ?_).call
  walk_at "S"
  obtain ⟨hsk1, hsk2⟩ : (T.sc k).capd.length ≤ B + (ps.length - (j' + 1)) ∧ (T.sc k).caps.length ≤ B + (ps.length - (j' + 1)) := hsz1 k
  have hcl := hys.1
  cases hid : idxB (T.sc k).capd bb with
  | some i =>
   dsimp only
   refine if_b (fun hc => by simp at hc; lia) (fun U => ?_)
   walk_at "S"
   rw [capStep_old hid] at k0
   refine k0 _ ?_ σ1 rep1 fr1 (by lia) (hsz1.mono (by lia)) hpl ?_ ?_
   ·exact (((p1.set (by walk_at "f")).set (by walk_at "f")).set (by walk_at "f")).set (by walk_at "f")
   ·exact look_ne (by walk_at "f") look_eq
   ·rintro _ ⟨⟩; exact look_eq
  | none =>
   dsimp only
   refine if_b (fun U => ?_) (fun hc => by simp at hc)
   walk_at "S"
   refine GET_self hK rep1 hka (P := RV μ (.capd k)) (by decide) (fun fs g => by refine xe12 g.capd fun a e q => ?_; exact ⟨_, e, a, q, rfl⟩) ?_
   rintro _ ⟨ca', hca', rfl⟩
   obtain rfl := si (hca.symm.trans hca')
   walk_at "S"
   refine CALL_len_list eca (by lia) ?_
   rw [← hcl]
   walk_at "S"
   refine GET_self hK rep1 hka (P := RV μ (.capd k)) (by decide) (fun fs g => by refine xe12 g.capd fun a e q => ?_; exact ⟨_, e, a, q, rfl⟩) ?_
   rintro _ ⟨ca', hca', rfl⟩
   obtain rfl := si (hca.symm.trans hca')
   walk_at "S"
   refine METH_append eca ?_
   walk_at "S"
   refine CALL_append eca (by lia) ?_
   walk_at "S"
   have rep2 : Rep w Λ D μ (setSc T k fun s => { s with capd := s.capd ++ [bb] }) (σ1.set ca (.list (cs ++ [.ref d]))) :=
    rep1.set hca rfl rfl (fun tp => ⟨_, rfl, by rw [setSc_self]; exact hys.snoc ⟨d, hd, rfl⟩⟩) fun r' o' hr => Good.updSc hr cmp_capd
   have fr2 := fr1.trans (Fr.set (Λ := Λ) (o := .list (cs ++ [.ref d])) hca (rep1.nt hca))
   generalize σ1.set ca (.list (cs ++ [.ref d])) = σ2 at rep2 fr2 ⊢
   refine GET_self hK rep2 hka (P := RV μ (.caps k)) (by decide) (fun fs g => by refine xe12 g.caps fun a e q => ?_; exact ⟨_, e, a, q, rfl⟩) ?_
   rintro _ ⟨cc, hcc, rfl⟩
   obtain ⟨_, ecc, es, rfl, hes⟩ := rep2.at_ _ _ hcc
   rw [setSc_self] at hes
   have hes : F2 (CV σ2) (T.sc k).caps es := hes
   have hel := hes.1
   refine METH_append ecc ?_
   walk_at "S"
   rw [capStep_new hid] at k0
   have fin : ∀ σ3 t, Sub σ2 σ3 → CV σ3 (capE T bb ah) (.ref t) → ∀ ρ', LK ρ' "binding" (.ref d) → LK ρ' "is_first" (.bool false) → LK ρ' "ahead" (.int (T.sc k).capd.length) → RF _ _ _ _ _ (.rev p ((j' : Int) - 1)) FF ρ' (σ3.set cc (.list (es ++ [.ref t]))) := fun σ3 t sub hcv ρ' r1 r2 r3 => by
    have rep3 := rep2.sub sub
    have rep4 : Rep w Λ D μ (capAdd T k bb (capE T bb ah)) (σ3.set cc (.list (es ++ [.ref t]))) :=
     rep3.set hcc rfl rfl (fun tp => ⟨_, rfl, by unfold capAdd; rw [setSc_self, setSc_self]; exact (hes.mono fun U U z => (z.mono sub.tup).mono tp).snoc (hcv.mono tp)⟩) fun r' o' hr => Good.updSc hr cmp_caps
    refine k0 ρ' r1 _ rep4 ((fr2.trans (Fr.sub sub)).trans (Fr.set hcc (rep3.nt hcc))) (by lia) ?_ hpl r2 (fun i hi => by obtain rfl := si hi; exact r3)
    exact (capAdd_sz hsz1).mono (by lia)
   cases ah with
   | none =>
    refine if_t ?_
    walk_at "S"
    refine GET_bi hK rep2 hd (P := PV σ2 (T.pl bb)) (by decide) (fun fs g => g.place) fun u hu => ?_
    have hpl' : T.pl bb = some (c0, i0) := by rw [hpl]; exact hp
    rw [hpl'] at hu
    refine xe12 hu fun t0 eq1 ht0 => ?_; obtain rfl := eq1
    walk_at "S"
    refine SUB_tuple ht0 (by decide) (by decide) rfl ?_
    walk_at "S"
    refine ⟨by simp, fun t ht => ?_⟩
    walk_at "S"
    refine CALL_append (keep_new ht ecc) (by lia) ?_
    walk_at "S"
    refine fin _ t (Sub.new ht) ⟨t, rfl, ?_⟩ _ ((((p1.set (by walk_at "f")).set (by walk_at "f")).set (by walk_at "f")).set (by walk_at "f") |>.set (by walk_at "f")) (look_ne (by walk_at "f") look_eq) look_eq
    rw [Sto.set_self]
    simp only [capE, plIdx, hpl', Option.getD_some]
   | some i =>
    refine if_f ?_
    walk_at "S"
    have l3 := l2 i rfl
    refine rLoc (look_ne (by walk_at "f") (look_ne (by walk_at "f") (look_ne (by walk_at "f") l3))) ?_ (by walk_at "=l") (by walk_at "=f")
    walk_at "S"
    refine ⟨by simp, fun t ht => ?_⟩
    walk_at "S"
    refine CALL_append (keep_new ht ecc) (by lia) ?_
    walk_at "S"
    exact fin _ t (Sub.new ht) ⟨t, rfl, Sto.set_self ..⟩ _ ((((p1.set (by walk_at "f")).set (by walk_at "f")).set (by walk_at "f")).set (by walk_at "f") |>.set (by walk_at "f")) (look_ne (by walk_at "f") look_eq) look_eq
 ·intro ρ p1 σ1 rep1 fr1 hle hsz1 hpl l1 l2
  have ep1 := (fr1.k p _ lp op ep).1
  refine rFR b'.h ep1 (fun j' v hj' hv => by lia) (fun U => ?_) (by lia)
  walk_at "S"
  rw [List.take_of_length_le (Nat.le_refl _)] at rep1
  exact h σ1 rep1 fr1
 ·exact hsz.mono (by lia)
 ·intro j hj; exact nn hj
end
end
section
theorem CMP_is_nr {C : Cx} {A : Around} {σ : Sto} {b : Addr} {Q : MV → Sto → Prop} (h : Q (.bool false) σ) : CMP C A .Is .none (.ref b) σ Q := fun av bv e1 e2 η s g => by
 obtain rfl := MV.of_none e1
 obtain rfl := MV.of_ref e2
 show wpAny _ A (do return Value.bool (← isSame .none (.ref b))) _ nF s
 exact wpAny_bind (wpAny_isSame_plain rfl (wpAny_pure ⟨σ, g, h⟩))
noncomputable def UV (w : N → Str) (μ : Map) (σ : Sto) (q : List VE × N) (v : MV) : Prop := ∃ t vv, v = .ref t ∧ σ t = some (.tuple [vv, .str (w q.2)]) ∧ VV μ q.1 vv
theorem UV.mono {w : N → Str} {μ μ' : Map} {σ σ' : Sto} {q : List VE × N} {v : MV} (m : MSub μ μ') (t : Tup σ σ') (h : UV w μ σ q v) : UV w μ' σ' q v := by
 refine xe23 h fun a vv e1 e2 e3 => ?_
 exact ⟨a, vv, e1, t _ _ e2, e3.mono m⟩
noncomputable def UOk (S : AS) (uses : List (List VE × N)) : Prop := ∀ q ∈ uses, ChOk S q.1 ∧ q.1.length ≤ 100
open Classical in
noncomputable def selfHit (k : Nat) (y : N) (q : List VE × N) : Bool := decide (q.2 = y ∧ (lookV q.1 q.2).1 = some (.self k))
noncomputable def fnV : List VE → Option Nat
 | [] => none
 | .sc k _ _ :: _ => some k
 | .ct _ _ :: r => fnV r
theorem propSP (P : Params) : (plainGet (KF P) 184 "self_place" && hasDictIn (KF P) 184 && (findIn (KF P) (.ref 184) "self_place" == some (some (.ref 173))) && (specialIn (KF P) (.ref 173) "__get__" == some (some (.builtin "property.__get__"))) && (takesIn (KF P) (.ref 173) == some true)) = true := by kernel_rfl
theorem propSPr (P : Params) : ∃ r, recIn (KF P) 173 "property" = some (.ref 172 :: r) := ⟨_, rfl⟩
theorem propAP (P : Params) : (plainGet (KF P) 184 "arguments_place" && hasDictIn (KF P) 184 && (findIn (KF P) (.ref 184) "arguments_place" == some (some (.ref 181))) && (specialIn (KF P) (.ref 181) "__get__" == some (some (.builtin "property.__get__"))) && (takesIn (KF P) (.ref 181) == some true)) = true := by kernel_rfl
theorem propAPr (P : Params) : ∃ r, recIn (KF P) 181 "property" = some (.ref 180 :: r) := ⟨_, rfl⟩
section
variable {C : Cx} (hK : PK C)
include hK
theorem OP_sp : ∃ r, OwnProp C.K 184 "self_place" 173 172 r := by
 have h := propSP C.w.params
 refine xe11 (propSPr C.w.params) fun r hr => ?_
 simp only [Bool.and_eq_true, beq_iff_eq] at h
 rw [hK]
 exact ⟨r, h.1.1.1.1, h.1.1.1.2, h.1.1.2, h.1.2, h.2, hr⟩
theorem OP_ap : ∃ r, OwnProp C.K 184 "arguments_place" 181 180 r := by
 have h := propAP C.w.params
 refine xe11 (propAPr C.w.params) fun r hr => ?_
 simp only [Bool.and_eq_true, beq_iff_eq] at h
 rw [hK]
 exact ⟨r, h.1.1.1.1, h.1.1.1.2, h.1.1.2, h.1.2, h.2, hr⟩
variable {A : Around} {n : Nat} {σ Λ : Sto} {w : N → Str} (hw : ∀ x y, w x = w y → x = y) {D : List (Addr × Role)} {μ : Map} {S : AS}
theorem GET_selfp (b : Bud A (n + 2)) (rep : Rep w Λ D μ S σ) {a : Addr} {k : Nat} (ha : μ (.sc k) = some a) {Q : MV → Sto → Prop} (h : ∀ v, PV σ (match (S.sc k).sf with | none => none | some _ => S.pl (.self k)) v → Q v σ) : GET C A (.ref a) "self_place" σ Q := by
 obtain ⟨_, ea, fs, rfl, g⟩ := rep.at_ _ _ ha
 refine xe11 (OP_sp hK) fun r ok => ?_
 have hok : ∀ p v, PV σ p v → v.hok = true := fun p v hv => by
  cases p with
  | none => rw [show v = .none from hv]; rfl
  | some q => refine xe12 hv fun t eq1 U => ?_; obtain rfl := eq1; rfl
 refine GET_prop ea ok ?_
 refine runFnQ hK (f := 172) (n := n) ["self"] (fun U => rfl) (fun U => rfl) rfl rfl (ar1 fun U => rfl) rfl rfl (b.mono (by lia)).in1 fun FF e1 eQ hK b' => ?_
 subst e1
 walk_at "S"
 refine GET_self hK rep ha (P := SV μ k (S.sc k).sf) (by decide) (fun fs g => g.slf) fun v hv => ?_
 cases hs : (S.sc k).sf with
 | none =>
  rw [hs] at hv h
  obtain rfl : v = .none := hv
  walk_at "S"
  refine if_t ?_
  walk_at "S"
  exact eQ _ _ ⟨rfl, h _ rfl⟩
 | some y =>
  rw [hs] at hv h
  obtain ⟨d, hd, rfl⟩ : RV μ (.bi (.self k)) v := hv
  walk_at "S"
  refine if_f ?_
  walk_at "S"
  refine GET_self hK rep ha (P := SV μ k (S.sc k).sf) (by decide) (fun fs g => g.slf) fun v hv => ?_
  rw [hs] at hv
  obtain ⟨d2, hd2, rfl⟩ : RV μ (.bi (.self k)) v := hv
  obtain rfl := si (hd.symm.trans hd2)
  walk_at "S"
  refine GET_bi hK rep hd (P := PV σ (S.pl (.self k))) (by decide) (fun fs g => g.place) fun u hu => ?_
  exact eQ _ _ ⟨hok _ _ hu, h u hu⟩
theorem FUNC (rep : Rep w Λ D μ S σ) {k : Nat} {a : Addr} (ha : μ (.sc k) = some a) {Q : MV → Sto → Prop} (h : Q (.ref a) σ) : ∀ {ch : List VE} {A : Around} {v : MV}, Bud A (n + ch.length + 1) → ChOk S ch → VV μ ch v → fnV ch = some k →
  METH C A v "function" σ fun f pre σ' => callee C.K f = true ∧ CALL C A f pre σ' Q
 | [], _, _, _, _, _, e => by exact nn e
 | .sc k' own sf :: r, A, v, b, ok, hv, e => by
  cases e
  obtain ⟨a', ha', rfl⟩ : RV μ (.sc k) v := hv
  obtain rfl := si (ha.symm.trans ha')
  refine METH_scope hK rep ha (f := 144) (by decide) (by decide) ?_
  refine ⟨by rw [hK]; rfl, CALLC.call ?_⟩
  refine runFn hK (f := 144) ["self"] (fun U => rfl) (fun U => rfl) rfl rfl (ar1 fun U => rfl) rfl rfl b fun FF e1 e2 hK b' => ?_
  subst e1 e2
  walk_at "S"
  exact h
 | .ct c x :: r, A, v, b, ok, hv, e => by
  obtain ⟨a', ha', rfl⟩ : RV μ (.ct c) v := hv
  refine xe04 ok fun o1 o2 o4 o5 => ?_
  refine METH_ct hK rep ha' (f := 209) (by decide) (by decide) ?_
  have rec' : ∀ {A : Around} {v : MV}, Bud A (n + r.length + 1) → VV μ r v → METH C A v "function" σ fun f pre σ' => callee C.K f = true ∧ CALL C A f pre σ' Q := fun b hv => FUNC rep ha h b o5 hv e
  refine ⟨by rw [hK]; rfl, CALLC.call ?_⟩
  refine runFn hK (f := 209) (n := n + r.length + 1) ["self"] (fun U => rfl) (fun U => rfl) rfl rfl (ar1 fun U => rfl) rfl rfl (b.mono (by simp; lia)) fun FF e1 e2 hK b' => ?_
  subst e1 e2
  walk_at "S"
  refine GET_ct hK rep ha' (P := VV μ (S.ct c).ch) (by decide) (fun fs g => g.parent) fun pv hpv => ?_
  rw [o4] at hpv
  exact rec' b' hpv
theorem GET_argp (b : Bud A (n + 2)) (rep : Rep w Λ D μ S σ) {a : Addr} {k : Nat} (h4 : w 4 = "arguments") (ha : μ (.sc k) = some a) (hin : (S.sc k).ua = true → (4 : N) ∈ (S.sc k).own) {Q : MV → Sto → Prop} (h : ∀ v, PV σ (if (S.sc k).ua then S.pl (.own k 4) else none) v → Q v σ) : GET C A (.ref a) "arguments_place" σ Q := by
 obtain ⟨_, ea, fs, rfl, g⟩ := rep.at_ _ _ ha
 refine xe11 (OP_ap hK) fun r ok => ?_
 have hok : ∀ p v, PV σ p v → v.hok = true := fun p v hv => by
  cases p with
  | none => rw [show v = .none from hv]; rfl
  | some q => refine xe12 hv fun t eq1 U => ?_; obtain rfl := eq1; rfl
 refine GET_prop ea ok ?_
 refine runFnQ hK (f := 180) (n := n) ["self"] (fun U => rfl) (fun U => rfl) rfl rfl (ar1 fun U => rfl) rfl rfl (b.mono (by lia)).in1 fun FF e1 eQ hK b' => ?_
 subst e1
 walk_at "S"
 refine GET_self hK rep ha (P := fun v => v = .bool (S.sc k).ua) (by decide) (fun fs g => ⟨_, g.ua, rfl⟩) ?_
 rintro _ rfl
 refine TRU_bool ?_
 refine if_b (fun hc => ?_) (fun hc => ?_)
 ·rw [if_pos hc] at h
  walk_at "S"
  refine GET_self hK rep ha (P := RV μ (.own k)) (by decide) (fun fs g => by refine xe12 g.own fun a e q => ?_; exact ⟨_, e, a, q, rfl⟩) ?_
  rintro _ ⟨d, hd, rfl⟩
  obtain ⟨_, ed, es, ep, rfl, od⟩ := rep.at_ _ _ hd
  refine xe12 (od.2 4 (hin hc)) fun y e1 e3 => ?_
  rw [h4] at e3
  walk_at "S"
  refine SUB_dict ed e3 ?_
  walk_at "S"
  refine GET_bi hK rep e1 (P := PV σ (S.pl (.own k 4))) (by decide) (fun fs g => g.place) fun u hu => ?_
  exact eQ _ _ ⟨hok _ _ hu, h u hu⟩
 ·rw [if_neg (Bool.eq_false_iff.mp hc)] at h
  walk_at "S"
  exact eQ _ _ ⟨rfl, h _ rfl⟩
end
end
section
theorem selfHit_t {k : Nat} {y x : N} {ch : List VE} (h : x = y ∧ (lookV ch x).1 = some (.self k)) : selfHit k y (ch, x) = true := by cases q : selfHit k y (ch, x) with
 | true => rfl
 | false => unfold selfHit at q; rw [decide_eq_false_iff_not] at q; exact absurd h q
theorem selfHit_f {k : Nat} {y x : N} {ch : List VE} (h : ¬(x = y ∧ (lookV ch x).1 = some (.self k))) : selfHit k y (ch, x) = false := by unfold selfHit; rw [decide_eq_false_iff_not]; exact h
theorem any_srch {γ : Type} {P : Loc → Prop} {R : Nat → Loc → Prop} {ys : List γ} {f : γ → Bool}
  (step : ∀ i y ρ, P ρ → ys[i]? = some y → (f y = true → ys.any f = true) → (f y = false → ∀ ρ', P ρ' → R (i + 1) ρ') → R i ρ) (fin : ∀ ρ, P ρ → ys.any f = false → R ys.length ρ) :
  ∀ (k i : Nat) (ρ : Loc), i + k = ys.length → P ρ → (∀ (j : Nat) (y : γ), j < i → ys[j]? = some y → f y = false) → R i ρ
 | 0, i, ρ, e, p, q => by
  obtain rfl : i = ys.length := by lia
  refine fin ρ p (List.any_eq_false.mpr fun y hy => ?_)
  refine xe11 (List.getElem?_of_mem hy) fun j hj => ?_
  rw [q j y (Gs hj).1 hj]; nofun
 | k + 1, i, ρ, e, p, q => by
  have q1 : ys[i]? = some ys[i] := List.getElem?_eq_getElem (by lia)
  refine step i _ ρ p q1 (fun h => List.any_eq_true.mpr ⟨_, List.mem_of_getElem? q1, h⟩) fun h ρ' p' => any_srch step fin k (i + 1) ρ' (by lia) p' fun j y hj hy => ?_
  by_cases hji : j = i
  ·subst hji; obtain rfl := si (q1.symm.trans hy); exact h
  ·exact q j y (by lia) hy
section
variable {C : Cx} (hK : PK C) {A : Around} {n : Nat} {σ Λ : Sto} {w : N → Str} (hw : ∀ x y, w x = w y → x = y) {D : List (Addr × Role)} {μ : Map} {S : AS}
include hK hw
theorem const_S (b : Bud A (n + 3)) (rep : Rep w Λ D μ S σ) {ch : List VE} (ok : ChOk S ch) (hl : ch.length ≤ 100) {v : MV} (hv : VV μ ch v) {x : N} {Q : MV → Sto → Prop}
  (h : ∀ σ', Sub σ σ' → Q (.bool (constV ch x)) σ') : CALLC C A (.ref 165) [v, .str (w x)] σ Q := by
 refine runFn hK (f := 165) ["self", "name"] (fun U => rfl) (fun U => rfl) rfl rfl (ar2 fun U U => rfl) rfl rfl b fun FF e1 e2 hK b' => ?_
 subst e1 e2
 walk_at "S"
 refine (look_up_C hK hw b' rep ok hl hv fun t pl bv xs σ' sub et epl hbv hxs => ?_).call
 walk_at "S"
 refine SUB_tuple et (by decide) (by decide) rfl ?_
 walk_at "S"
 have rep' := rep.sub sub
 unfold constV at h
 cases hb : (lookV ch x).1 with
 | none =>
  rw [hb] at hbv h
  obtain rfl : bv = .none := hbv
  refine if_f ?_
  exact h σ' sub
 | some bb =>
  rw [hb] at hbv h
  obtain ⟨d, hd, rfl⟩ : RV μ (.bi bb) bv := hbv
  refine if_t ?_
  walk_at "S"
  refine GET_bi hK rep' hd (P := fun v => v = .str (sortOf bb)) (by decide) (fun fs g => ⟨_, g.sort, rfl⟩) ?_
  rintro _ rfl
  walk_at "S"
  rw [sort_self]
  exact h σ' sub
theorem const_K (b : Bud A (n + 3)) (rep : Rep w Λ D μ S σ) {ch : List VE} (ok : ChOk S ch) (hl : ch.length ≤ 100) {v : MV} (hv : VV μ ch v) {x : N} {Q : MV → Sto → Prop}
  (h : ∀ σ', Sub σ σ' → Q (.bool (constV ch x)) σ') : CALLC C A (.ref 230) [v, .str (w x)] σ Q := by
 refine runFn hK (f := 230) ["self", "name"] (fun U => rfl) (fun U => rfl) rfl rfl (ar2 fun U U => rfl) rfl rfl b fun FF e1 e2 hK b' => ?_
 subst e1 e2
 walk_at "S"
 refine (look_up_C hK hw b' rep ok hl hv fun t pl bv xs σ' sub et epl hbv hxs => ?_).call
 walk_at "S"
 refine SUB_tuple et (by decide) (by decide) rfl ?_
 walk_at "S"
 have rep' := rep.sub sub
 unfold constV at h
 cases hb : (lookV ch x).1 with
 | none =>
  rw [hb] at hbv h
  obtain rfl : bv = .none := hbv
  refine if_f ?_
  exact h σ' sub
 | some bb =>
  rw [hb] at hbv h
  obtain ⟨d, hd, rfl⟩ : RV μ (.bi bb) bv := hbv
  refine if_t ?_
  walk_at "S"
  refine GET_bi hK rep' hd (P := fun v => v = .str (sortOf bb)) (by decide) (fun fs g => ⟨_, g.sort, rfl⟩) ?_
  rintro _ rfl
  walk_at "S"
  rw [sort_self]
  exact h σ' sub
theorem is_self_used_C (b : Bud A (n + 3)) (rep : Rep w Λ D μ S σ) {a u : Addr} {k : Nat} {y : N} {uses : List (List VE × N)} {xs : List MV} (ha : μ (.sc k) = some a) (hy : (S.sc k).sf = some y) (eu : σ u = some (.list xs)) (hu : F2 (UV w μ σ) uses xs) (ok : UOk S uses) {Q : MV → Sto → Prop}
  (h : ∀ σ', Sub σ σ' → Q (.bool (uses.any (selfHit k y))) σ') : CALLC C A (.ref 277) [.ref a, .ref u] σ Q := by
 refine runFn hK (f := 277) ["scope", "uses"] (fun U => rfl) (fun U => rfl) rfl rfl (ar2 fun U U => rfl) rfl rfl b fun FF e1 e2 hK b' => ?_
 subst e1 e2
 walk_at "S"
 refine ITR_list eu ?_
 refine any_srch (ys := uses) (f := selfHit k y) (P := fun ρ => LK ρ "scope" (.ref a)) (R := fun i ρ => ∀ σ', Sub σ σ' → RF _ _ _ _ _ (.list u i) FF ρ σ') ?_ ?_ uses.length 0 _ (Nat.zero_add _) (by rfl) (fun j y hj => by lia) σ Sub.refl
 ·rintro i q ρ l1 hi hq1 hq2 σ' sub
  have rep' := rep.sub sub
  refine xe02 (ok _ (List.mem_of_getElem? hi)) fun okc okl => ?_
  refine xe12 (hu.get hi) fun v hx uv => ?_
  obtain ⟨ch, x⟩ := q
  refine xe23 uv fun t vv eq2 et hvv => ?_; obtain rfl := eq2
  refine rFL b'.h (sub _ _ eu) (fun v hv => ?_) (fun hn => by exact sn (hx.symm.trans hn))
  obtain rfl := si (hx.symm.trans hv)
  refine rAT b'.h (sub _ _ et) ?_ (by walk_at "=i") (by walk_at "=o")
  walk_at "a"
  walk_at "a"
  walk_at "a"
  walk_at "S"
  refine GET_self hK rep' ha (P := SV μ k (S.sc k).sf) (by decide) (fun fs g => g.slf) fun v hv => ?_
  rw [hy] at hv
  obtain ⟨d, hd', rfl⟩ : RV μ (.bi (.self k)) v := hv
  walk_at "S"
  refine GET_bi hK rep' hd' (P := fun v => v = .str (w y)) (by decide) (fun fs g => by refine xe12 g.name fun z e q => ?_; have : some z = some y := e.symm.trans hy; obtain rfl := si this; exact ⟨_, q, rfl⟩) ?_
  rintro _ rfl
  walk_at "S"
  rw [beq_w hw]
  by_cases hxy : x = y
  ·rw [decide_eq_true hxy]
   walk_at "S"
   refine (look_up_C hK hw b' rep' okc okl hvv fun t2 pl bv xs2 σ2 sub2 et2 epl hbv hxs => ?_).call
   have rep2 := rep'.sub sub2
   walk_at "S"
   refine SUB_tuple et2 (by decide) (by decide) rfl ?_
   walk_at "S"
   refine GET_self hK rep2 ha (P := SV μ k (S.sc k).sf) (by decide) (fun fs g => g.slf) fun v hv => ?_
   rw [hy] at hv
   obtain ⟨d3, hd3, rfl⟩ : RV μ (.bi (.self k)) v := hv
   obtain rfl := si (hd'.symm.trans hd3)
   have miss : (lookV ch x).1 ≠ some (.self k) → selfHit k y (ch, x) = false := fun hne => selfHit_f fun z => hne z.2
   cases hb : (lookV ch x).1 with
   | none =>
    rw [hb] at hbv
    obtain rfl : bv = .none := hbv
    refine CMP_is_nr ?_
    walk_at "S"
    exact hq2 (miss (by rw [hb]; nofun)) _ ((l1.set (by walk_at "f")).set (by walk_at "f")) σ2 (sub.trans sub2)
   | some bb =>
    rw [hb] at hbv
    obtain ⟨d4, hd4, rfl⟩ : RV μ (.bi bb) bv := hbv
    obtain ⟨_, e3, fs3, rfl, _⟩ := rep2.at_ _ _ hd'
    obtain ⟨_, e4, fs4, rfl, _⟩ := rep2.at_ _ _ hd4
    refine CMP_is_ref e4 e3 ?_
    by_cases hbb : bb = .self k
    ·subst hbb
     obtain rfl := si (hd'.symm.trans hd4)
     rw [decide_eq_true rfl]
     walk_at "S"
     rw [hq1 (selfHit_t ⟨hxy, hb⟩)] at h
     exact h σ2 (sub.trans sub2)
    ·rw [decide_eq_false (by rintro rfl; have := rep2.inj _ _ _ hd4 hd'; cases this; exact hbb rfl)]
     walk_at "S"
     exact hq2 (miss (by rw [hb]; rintro ⟨⟩; exact hbb rfl)) _ ((l1.set (by walk_at "f")).set (by walk_at "f")) σ2 (sub.trans sub2)
  ·rw [decide_eq_false hxy]
   walk_at "S"
   exact hq2 (selfHit_f fun z => hxy z.1) _ ((l1.set (by walk_at "f")).set (by walk_at "f")) σ' sub
 ·intro ρ l1 hf σ' sub
  refine rFL b'.h (sub _ _ eu) (fun v hv => by have := (Gs hv).1; have := hu.1; lia) (fun U => ?_)
  walk_at "S"
  rw [hf] at h
  exact h σ' sub
end
end
section
theorem up_fold {β γ : Type} {P : Loc → Prop} {R : Nat → Loc → β → Prop} {ys : List γ} {f : β → γ → β}
  (step : ∀ i y ρ s, P ρ → ys[i]? = some y → (∀ ρ', P ρ' → R (i + 1) ρ' (f s y)) → R i ρ s) :
  ∀ (k i : Nat) (ρ : Loc) (s : β), i + k = ys.length → P ρ → (∀ ρ', P ρ' → R ys.length ρ' ((ys.drop i).foldl f s)) → R i ρ s
 | 0, i, ρ, s, e, p, k => by
  obtain rfl : i = ys.length := by lia
  rw [List.drop_length] at k
  exact k ρ p
 | n + 1, i, ρ, s, e, p, k => by
  have q' : ys[i]? = some ys[i] := List.getElem?_eq_getElem (by lia)
  refine step i _ ρ s p q' fun ρ' p' => up_fold step n (i + 1) ρ' _ (by lia) p' ?_
  have hd : ys.drop i = ys[i] :: ys.drop (i + 1) := List.drop_eq_getElem_cons (by lia)
  rw [hd, List.foldl_cons] at k
  exact k
structure Stat (S S' : AS) : Prop where
 n : S'.n = S.n
 m : S'.m = S.m
 ct : S'.ct = S.ct
 sc : ∀ k, (S'.sc k).ch = (S.sc k).ch ∧ (S'.sc k).strict = (S.sc k).strict ∧ (S'.sc k).ua = (S.sc k).ua ∧ (S'.sc k).ps = (S.sc k).ps ∧ (S'.sc k).own = (S.sc k).own ∧ (S'.sc k).sf = (S.sc k).sf ∧ (S'.sc k).kids = (S.sc k).kids ∧ (S'.sc k).cats = (S.sc k).cats
theorem Stat.refl {S : AS} : Stat S S := ⟨rfl, rfl, rfl, fun U => ⟨rfl, rfl, rfl, rfl, rfl, rfl, rfl, rfl⟩⟩
theorem Stat.trans {S S' S'' : AS} (h : Stat S S') (h' : Stat S' S'') : Stat S S'' := ⟨h'.n.trans h.n, h'.m.trans h.m, h'.ct.trans h.ct, fun k => by
 refine xe08 (h.sc k) fun a1 a2 a3 a4 a5 a6 a7 a8 => ?_
 refine xe08 (h'.sc k) fun b1 b2 b3 b4 b5 b6 b7 b8 => ?_
 exact ⟨b1.trans a1, b2.trans a2, b3.trans a3, b4.trans a4, b5.trans a5, b6.trans a6, b7.trans a7, b8.trans a8⟩⟩
theorem Stat.upd {S S' : AS} {k : Nat} {X : Sc} (h1 : S'.n = S.n) (h2 : S'.m = S.m) (h3 : S'.ct = S.ct) (h4 : S'.sc = upd S.sc k X)
  (h : X.ch = (S.sc k).ch ∧ X.strict = (S.sc k).strict ∧ X.ua = (S.sc k).ua ∧ X.ps = (S.sc k).ps ∧ X.own = (S.sc k).own ∧ X.sf = (S.sc k).sf ∧ X.kids = (S.sc k).kids ∧ X.cats = (S.sc k).cats) : Stat S S' := ⟨h1, h2, h3, fun k' => by
 rw [h4]
 by_cases e : k' = k
 ·subst e; rw [upd_self]; exact h
 ·rw [upd_ne _ _ e]; exact ⟨rfl, rfl, rfl, rfl, rfl, rfl, rfl, rfl⟩⟩
theorem giveA_stat {S : AS} {k : Nat} {b : BId} : Stat S (giveA S k b) := by
 unfold giveA
 split
 ·exact Stat.upd rfl rfl rfl rfl ⟨rfl, rfl, rfl, rfl, rfl, rfl, rfl, rfl⟩
 ·exact Stat.upd rfl rfl rfl rfl ⟨rfl, rfl, rfl, rfl, rfl, rfl, rfl, rfl⟩
theorem setSc_stat {S : AS} {k : Nat} {f : Sc → Sc} (h : (f (S.sc k)).ch = (S.sc k).ch ∧ (f (S.sc k)).strict = (S.sc k).strict ∧ (f (S.sc k)).ua = (S.sc k).ua ∧ (f (S.sc k)).ps = (S.sc k).ps ∧ (f (S.sc k)).own = (S.sc k).own ∧ (f (S.sc k)).sf = (S.sc k).sf ∧ (f (S.sc k)).kids = (S.sc k).kids ∧ (f (S.sc k)).cats = (S.sc k).cats) : Stat S (setSc S k f) := Stat.upd rfl rfl rfl rfl h
theorem ChOk.stat {S S' : AS} (h : Stat S S') {ch : List VE} (ok : ChOk S ch) : ChOk S' ch :=
 ok.mono (by rw [h.n]; exact Nat.le_refl _) (by rw [h.m]; exact Nat.le_refl _) (fun k U => ⟨(h.sc k).2.2.2.2.1, (h.sc k).2.2.2.2.2.1, (h.sc k).1⟩) (fun c U => by rw [h.ct])
theorem UOk.stat {S S' : AS} (h : Stat S S') {uses : List (List VE × N)} (ok : UOk S uses) : UOk S' uses := fun q hq => ⟨(ok q hq).1.stat h, (ok q hq).2⟩
theorem stat_fold {γ : Type} {f : AS → γ → AS} (h : ∀ S y, Stat S (f S y)) : ∀ (ys : List γ) (S : AS), Stat S (ys.foldl f S)
 | [], _ => Stat.refl
 | y :: ys, S => (h S y).trans (stat_fold h ys _)
noncomputable def gOwn (k : Nat) (T : AS) (x : N) : AS := giveA T k (.own k x)
noncomputable def gCat (k : Nat) (T : AS) (c : Nat) : AS := giveA T k (.ct c)
noncomputable def gPar (k : Nat) (T : AS) (x : N) : AS := setSc T k fun s => { s with pps := s.pps ++ [T.pl (.own k x)] }
noncomputable def gSelf (k : Nat) (T : AS) (uses : List (List VE × N)) : AS := match (T.sc k).sf with
 | some y => if uses.any (selfHit k y) then giveA T k (.self k) else T
 | none => T
noncomputable def placesA (S : AS) (k : Nat) (uses : List (List VE × N)) : AS :=
 (S.sc k).ps.foldl (gPar k) ((S.sc k).cats.foldl (gCat k) (gSelf k ((S.sc k).own.foldl (gOwn k) S) uses))
theorem gSelf_stat {k : Nat} {T : AS} {uses : List (List VE × N)} : Stat T (gSelf k T uses) := by
 unfold gSelf
 split
 ·split
  ·exact giveA_stat
  ·exact Stat.refl
 ·exact Stat.refl
theorem gPar_stat {k : Nat} {T : AS} {x : N} : Stat T (gPar k T x) := setSc_stat ⟨rfl, rfl, rfl, rfl, rfl, rfl, rfl, rfl⟩
theorem placesA_stat {S : AS} {k : Nat} {uses : List (List VE × N)} : Stat S (placesA S k uses) :=
 (stat_fold (fun U U => giveA_stat) _ _).trans (gSelf_stat.trans ((stat_fold (fun U U => giveA_stat) _ _).trans (stat_fold (fun U U => gPar_stat) _ _)))
theorem giveA_pps {S : AS} {k k' : Nat} {b : BId} : ((giveA S k b).sc k').pps = (S.sc k').pps := by
 unfold giveA
 split <;> (dsimp only; by_cases e : k' = k)
 ·subst e; rw [upd_self]
 ·rw [upd_ne _ _ e]
 ·subst e; rw [upd_self]
 ·rw [upd_ne _ _ e]
theorem pps_fold {γ : Type} {f : AS → γ → AS} {k' : Nat} (h : ∀ S y, ((f S y).sc k').pps = (S.sc k').pps) : ∀ (ys : List γ) (S : AS), ((ys.foldl f S).sc k').pps = (S.sc k').pps
 | [], _ => rfl
 | y :: ys, S => by rw [List.foldl_cons, pps_fold h ys]; exact h S y
theorem gSelf_pps {k k' : Nat} {T : AS} {uses : List (List VE × N)} : ((gSelf k T uses).sc k').pps = (T.sc k').pps := by
 unfold gSelf
 split
 ·split
  ·exact giveA_pps
  ·rfl
 ·rfl
theorem OwnD.at_ {w : N → Str} {μ : Map} {k : Nat} {own : List N} {es : Loc} (h : OwnD w μ k own es) {i : Nat} {p : Str × MV} (e : es[i]? = some p) : ∃ x, own[i]? = some x ∧ p.1 = w x := by
 have : (es.map (·.1))[i]? = some p.1 := by rw [List.getElem?_map, e]; rfl
 rw [h.1, List.getElem?_map] at this
 cases q : own[i]? with
 | none => rw [q] at this; exact nn this
 | some x => rw [q] at this; exact ⟨x, rfl, (Option.some.inj this).symm⟩
section
variable {C : Cx} (hK : PK C) {A : Around} {n : Nat} {σ Λ : Sto} {w : N → Str} (hw : ∀ x y, w x = w y → x = y) {D : List (Addr × Role)} {μ : Map} {S : AS}
include hK hw
theorem give_places_C (b : Bud A (n + 4)) (rep : Rep w Λ D μ S σ) {a u : Addr} {k : Nat} {uses : List (List VE × N)} {xs : List MV} (ha : μ (.sc k) = some a) (eu : σ u = some (.list xs)) (ou : Off μ u) (lu : Λ u = none) (hu : F2 (UV w μ σ) uses xs) (ok : UOk S uses)
  (hps : ∀ x ∈ (S.sc k).ps, x ∈ (S.sc k).own) (hpl : (S.sc k).ps.length ≤ 100) (hpp : (S.sc k).pps.length ≤ 100) {Q : MV → Sto → Prop}
  (h : ∀ σ', Rep w Λ D μ (placesA S k uses) σ' → Fr Λ μ σ μ σ' → Q .none σ') : CALLC C A (.ref 291) [.ref a, .ref u] σ Q := by
 refine runFn hK (f := 291) ["scope", "uses"] (fun U => rfl) (fun U => rfl) rfl rfl (ar2 fun U U => rfl) rfl rfl b fun FF e1 e2 hK b' => ?_
 subst e1 e2
 walk_at "S"
 refine GET_self hK rep ha (P := RV μ (.own k)) (by decide) (fun fs g => by refine xe12 g.own fun a e q => ?_; exact ⟨_, e, a, q, rfl⟩) ?_
 rintro _ ⟨d, hd, rfl⟩
 obtain ⟨_, ed, es, ep, rfl, od⟩ := rep.at_ _ _ hd
 have hlen : es.length = (S.sc k).own.length := by have := congrArg List.length od.1; simpa using this
 refine ITRK hK.big ed ?_
 refine up_fold (ys := (S.sc k).own) (f := gOwn k) (P := fun ρ => LK ρ "scope" (.ref a) ∧ LK ρ "uses" (.ref u)) (R := fun i ρ (T : AS) => ∀ σ', Rep w Λ D μ T σ' → Fr Λ μ σ μ σ' → KeepN σ σ' → Stat S T → RF _ _ _ _ _ (.keys d i es.length ep) FF ρ σ')
  ?_ (S.sc k).own.length 0 _ S (Nat.zero_add _) ⟨by rfl, by rfl⟩ ?_ σ rep Fr.refl KeepN.refl Stat.refl
 ·rintro i x ρ T ⟨l1, l2⟩ hi k0 σ1 rep1 fr1 kn1 st1
  refine rFK b'.h (kn1 _ _ rfl ed) rfl (fun p hp => ?_) (fun hn => ?_)
  ·refine xe12 (od.at_ hp) fun x' hx' hp1 => ?_
   obtain rfl := si (hi.symm.trans hx')
   rw [hp1]
   walk_at "a"
   walk_at "S"
   refine GET_self hK rep1 ha (P := RV μ (.own k)) (by decide) (fun fs g => by refine xe12 g.own fun a e q => ?_; exact ⟨_, e, a, q, rfl⟩) ?_
   rintro _ ⟨d', hd', rfl⟩
   obtain rfl := si (hd.symm.trans hd')
   walk_at "S"
   refine xe12 (od.2 x (List.mem_of_getElem? hi)) fun y e1 e2 => ?_
   refine SUB_dict (kn1 _ _ rfl ed) e2 ?_
   walk_at "S"
   refine (give_place_C hK b' rep1 ha e1 fun σ2 rep2 fr2 kn2 => ?_).call
   walk_at "S"
   exact k0 _ ⟨l1.set (by walk_at "f"), l2.set (by walk_at "f")⟩ σ2 rep2 (fr1.trans fr2) (kn1.trans kn2) (st1.trans giveA_stat)
  ·have := (Gs hi).1
   rw [List.getElem?_eq_none_iff] at hn
   lia
 rintro ρ ⟨l1, l2⟩ σ1 rep1 fr1 kn1 st1
 refine rFK b'.h (kn1 _ _ rfl ed) rfl (fun p hp => ?_) (fun hn => ?_)
 ·have := (Gs hp).1
  lia
 rw [List.drop_zero] at rep1 st1
 unfold placesA at h
 have pp1 : (((S.sc k).own.foldl (gOwn k) S).sc k).pps = (S.sc k).pps := pps_fold (fun U U => giveA_pps) _ _
 generalize (S.sc k).own.foldl (gOwn k) S = S1 at h rep1 st1 pp1
 have sf1 : (S1.sc k).sf = (S.sc k).sf := (st1.sc k).2.2.2.2.2.1
 refine rNil (rIfC (fun ρ' σ' => LK ρ' "scope" (.ref a) ∧ Rep w Λ D μ (gSelf k S1 uses) σ' ∧ Fr Λ μ σ μ σ' ∧ KeepN σ σ') ?_ ?_)
 rotate_left
 ·rintro ρ σ2 ⟨l1, rep2, fr2, kn2⟩
  have st2 : Stat S (gSelf k S1 uses) := st1.trans gSelf_stat
  have pp2 : ((gSelf k S1 uses).sc k).pps = (S.sc k).pps := gSelf_pps.trans pp1
  generalize gSelf k S1 uses = S2 at h rep2 st2 pp2
  walk_at "S"
  refine GET_self hK rep2 ha (P := RV μ (.cats k)) (by decide) (fun fs g => by refine xe12 g.cats fun a e q => ?_; exact ⟨_, e, a, q, rfl⟩) ?_
  rintro _ ⟨ca, hca, rfl⟩
  obtain ⟨_, eca, cs, rfl, hcs⟩ := rep.at_ _ _ hca
  refine ITR_list (kn2 _ _ rfl eca) ?_
  refine up_fold (ys := (S.sc k).cats) (f := gCat k) (P := fun ρ => LK ρ "scope" (.ref a)) (R := fun i ρ (T : AS) => ∀ σ', Rep w Λ D μ T σ' → Fr Λ μ σ μ σ' → KeepN σ σ' → Stat S T → RF _ _ _ _ _ (.list ca i) FF ρ σ')
   ?_ (S.sc k).cats.length 0 _ S2 (Nat.zero_add _) l1 ?_ σ2 rep2 fr2 kn2 st2
  ·rintro i c ρ T l1 hi k0 σ3 rep3 fr3 kn3 st3
   obtain ⟨_, hx, cta, hct, rfl⟩ := hcs.get hi
   refine rFL b'.h (kn3 _ _ rfl eca) (fun v hv => ?_) (fun hn => by exact sn (hx.symm.trans hn))
   obtain rfl := si (hx.symm.trans hv)
   walk_at "a"
   walk_at "S"
   refine GET_ct hK rep3 hct (P := RV μ (.bi (.ct c))) (by decide) (fun fs g => by refine xe12 g.caught fun a e q => ?_; exact ⟨_, e, a, q, rfl⟩) ?_
   rintro _ ⟨y, e1, rfl⟩
   walk_at "S"
   refine (give_place_C hK b' rep3 ha e1 fun σ4 rep4 fr4 kn4 => ?_).call
   walk_at "S"
   exact k0 _ (l1.set (by walk_at "f")) σ4 rep4 (fr3.trans fr4) (kn3.trans kn4) (st3.trans giveA_stat)
  rintro ρ l1 σ3 rep3 fr3 kn3 st3
  have hcl := hcs.1
  refine rFL b'.h (kn3 _ _ rfl eca) (fun v hv => by have := (Gs hv).1; lia) (fun U => ?_)
  rw [List.drop_zero] at rep3 st3
  have pp3 : (((S.sc k).cats.foldl (gCat k) S2).sc k).pps = (S.sc k).pps := (pps_fold (fun U U => giveA_pps) _ _).trans pp2
  generalize (S.sc k).cats.foldl (gCat k) S2 = S3 at h rep3 st3 pp3
  walk_at "S"
  refine GET_self hK rep3 ha (P := RV μ (.par k)) (by decide) (fun fs g => by refine xe12 g.params fun a e q => ?_; exact ⟨_, e, a, q, rfl⟩) ?_
  rintro _ ⟨pa, hpa, rfl⟩
  have par : ∀ {T σ'}, Rep w Λ D μ T σ' → Stat S T → σ' pa = some (.list ((S.sc k).ps.map fun x => .str (w x))) := fun r st => by
   refine xe12 (r.at_ _ _ hpa) fun U e eq2 => ?_; obtain rfl := eq2
   rw [(st.sc k).2.2.2.1] at e
   exact e
  refine ITR_list (par rep3 st3) ?_
  refine up_fold (ys := (S.sc k).ps) (f := gPar k) (P := fun ρ => LK ρ "scope" (.ref a)) (R := fun i ρ (T : AS) => ∀ σ', Rep w Λ D μ T σ' → Fr Λ μ σ μ σ' → Stat S T → σ' d = some (.dict es ep) → (T.sc k).pps.length ≤ 100 + i → RF _ _ _ _ _ (.list pa i) FF ρ σ')
   ?_ (S.sc k).ps.length 0 _ S3 (Nat.zero_add _) l1 ?_ σ3 rep3 fr3 st3 (kn3 _ _ rfl ed) ?_
  ·rintro i x ρ T l1 hi k0 σ4 rep4 fr4 st4 ed4 hl4
   have hx : ((S.sc k).ps.map fun x => MV.str (w x))[i]? = some (.str (w x)) := by rw [List.getElem?_map, hi]; rfl
   have hlt := (Gs hi).1
   refine rFL b'.h (par rep4 st4) (fun v hv => ?_) (fun hn => by exact sn (hx.symm.trans hn))
   obtain rfl := si (hx.symm.trans hv)
   walk_at "a"
   walk_at "S"
   refine GET_self hK rep4 ha (P := RV μ (.pps k)) (by decide) (fun fs g => by refine xe12 g.pps fun a e q => ?_; exact ⟨_, e, a, q, rfl⟩) ?_
   rintro _ ⟨pp, hpp', rfl⟩
   obtain ⟨_, epp, ys, rfl, hys⟩ := rep4.at_ _ _ hpp'
   have hyl := hys.1
   refine METH_append epp ?_
   walk_at "S"
   refine GET_self hK rep4 ha (P := RV μ (.own k)) (by decide) (fun fs g => by refine xe12 g.own fun a e q => ?_; exact ⟨_, e, a, q, rfl⟩) ?_
   rintro _ ⟨d', hd', rfl⟩
   obtain rfl := si (hd.symm.trans hd')
   walk_at "S"
   refine xe12 (od.2 x (hps x (List.mem_of_getElem? hi))) fun y e1 e2 => ?_
   refine SUB_dict ed4 e2 ?_
   walk_at "S"
   refine GET_bi hK rep4 e1 (P := PV σ4 (T.pl (.own k x))) (by decide) (fun fs g => g.place) fun pv hpv => ?_
   walk_at "S"
   refine CALL_append epp (by lia) ?_
   walk_at "S"
   refine k0 _ (l1.set (by walk_at "f")) _ ?_ (fr4.trans (Fr.set hpp' (rep4.nt hpp'))) (st4.trans gPar_stat) (keep_ne (by rintro rfl; have := rep.inj _ _ _ hd hpp'; cases this) ed4) ?_
   ·exact rep4.set hpp' rfl rfl (fun tp => ⟨_, rfl, by unfold gPar; rw [setSc_self]; exact (hys.mono fun U U z => z.mono tp).snoc (hpv.mono tp)⟩) fun r' o' hr => Good.updSc hr cmp_pps
   ·unfold gPar; rw [setSc_self]; simp only [List.length_append, List.length_singleton]; lia
  ·rintro ρ l1 σ4 rep4 fr4 st4 ed4 hl4
   refine rFL b'.h (par rep4 st4) (fun v hv => by have := (Gs hv).1; simp at this) (fun U => ?_)
   walk_at "S"
   rw [List.drop_zero] at rep4
   exact h σ4 rep4 fr4
  ·rw [pp3]; exact hpp
 walk_at "S"
 refine GET_self hK rep1 ha (P := SV μ k (S1.sc k).sf) (by decide) (fun fs g => g.slf) fun v hv => ?_
 cases hs : (S1.sc k).sf with
 | none =>
  rw [hs] at hv
  obtain rfl : v = .none := hv
  walk_at "S"
  refine if_f ?_
  walk_at "S"
  exact ⟨rfl, l1, by unfold gSelf; rw [hs]; exact rep1, fr1, kn1⟩
 | some y =>
  rw [hs] at hv
  obtain ⟨d2, hd2, rfl⟩ : RV μ (.bi (.self k)) v := hv
  walk_at "S"
  refine if_t ?_
  walk_at "S"
  refine (is_self_used_C hK hw b' rep1 ha hs (fr1.k u _ lu ou eu).1 (hu.mono fun U U z => z.mono fr1.m fr1.t) (ok.stat st1) fun σ2 sub2 => ?_).call
  refine TRU_bool ?_
  have rep2 := rep1.sub sub2
  refine if_b (fun hc => ?_) (fun hc => ?_)
  ·walk_at "S"
   refine GET_self hK rep2 ha (P := SV μ k (S1.sc k).sf) (by decide) (fun fs g => g.slf) fun v hv => ?_
   rw [hs] at hv
   obtain ⟨d3, hd3, rfl⟩ : RV μ (.bi (.self k)) v := hv
   walk_at "S"
   refine (give_place_C hK b' rep2 ha hd3 fun σ3 rep3 fr3 kn3 => ?_).call
   walk_at "S"
   refine ⟨rfl, l1, ?_, fr1.trans ((Fr.sub sub2).trans fr3), kn1.trans ((KeepN.sub sub2).trans kn3)⟩
   unfold gSelf; rw [hs]; dsimp only; rw [if_pos hc]; exact rep3
  ·walk_at "S"
   refine ⟨rfl, l1, ?_, fr1.trans (Fr.sub sub2), kn1.trans (KeepN.sub sub2)⟩
   unfold gSelf; rw [hs]; dsimp only; rw [if_neg (by rw [hc]; nofun)]; exact rep2
end
end
section
noncomputable def capB (T : AS) (b : BId) : AS := { T with cap := upd T.cap b true }
noncomputable def markU (T : AS) (q : List VE × N) : AS := match lookV q.1 q.2 with
 | (some b, _ :: _) => capB T b
 | _ => T
noncomputable def markP (k : Nat) (T : AS) (x : N) : AS := capB T (.own k x)
noncomputable def markS (T : AS) (k : Nat) : AS := if (T.sc k).ua && !(T.sc k).strict then (T.sc k).ps.foldl (markP k) T else T
noncomputable def markA (S : AS) (uses : List (List VE × N)) (order : List Nat) : AS := order.foldl markS (uses.foldl markU S)
theorem capB_stat {T : AS} {b : BId} : Stat T (capB T b) := ⟨rfl, rfl, rfl, fun U => ⟨rfl, rfl, rfl, rfl, rfl, rfl, rfl, rfl⟩⟩
theorem markU_stat {T : AS} {q : List VE × N} : Stat T (markU T q) := by
 unfold markU
 split
 ·exact capB_stat
 ·exact Stat.refl
theorem markS_stat {T : AS} {k : Nat} : Stat T (markS T k) := by
 unfold markS
 split
 ·exact stat_fold (fun U U => capB_stat) _ _
 ·exact Stat.refl
theorem markA_stat {S : AS} {uses : List (List VE × N)} {order : List Nat} : Stat S (markA S uses order) :=
 (stat_fold (fun U U => markU_stat) _ _).trans (stat_fold (fun U U => markS_stat) _ _)
section
variable {C : Cx} (hK : PK C) {A : Around} {n : Nat} {σ Λ : Sto} {w : N → Str} (hw : ∀ x y, w x = w y → x = y) {D : List (Addr × Role)} {μ : Map} {S : AS}
include hK hw
theorem mark_captured_C (b : Bud A (n + 3)) (rep : Rep w Λ D μ S σ) {u o : Addr} {uses : List (List VE × N)} {order : List Nat} {xs ys : List MV} (eu : σ u = some (.list xs)) (hu : F2 (UV w μ σ) uses xs) (ok : UOk S uses)
  (eo : σ o = some (.list ys)) (ho : SCS μ order ys) (hps : ∀ k ∈ order, ∀ x ∈ (S.sc k).ps, x ∈ (S.sc k).own) {Q : MV → Sto → Prop}
  (h : ∀ σ', Rep w Λ D μ (markA S uses order) σ' → Fr Λ μ σ μ σ' → KeepN σ σ' → Q .none σ') : CALLC C A (.ref 270) [.ref u, .ref o] σ Q := by
 refine runFn hK (f := 270) ["uses", "scopes"] (fun U => rfl) (fun U => rfl) rfl rfl (ar2 fun U U => rfl) rfl rfl b fun FF e1 e2 hK b' => ?_
 subst e1 e2
 walk_at "S"
 refine ITR_list eu ?_
 have hul := hu.1
 have hol := ho.1
 refine up_fold (ys := uses) (f := markU) (P := fun ρ => LK ρ "scopes" (.ref o)) (R := fun i ρ (T : AS) => ∀ σ', Rep w Λ D μ T σ' → Fr Λ μ σ μ σ' → KeepN σ σ' → Stat S T → RF _ _ _ _ _ (.list u i) FF ρ σ')
  ?_ uses.length 0 _ S (Nat.zero_add _) (by rfl) ?_ σ rep Fr.refl KeepN.refl Stat.refl
 ·rintro i ⟨ch, x⟩ ρ T l1 hi k0 σ1 rep1 fr1 kn1 st1
  obtain ⟨_, hx, t, vv, rfl, et, hvv⟩ := hu.get hi
  refine xe02 (ok _ (List.mem_of_getElem? hi)) fun okc okl => ?_
  refine rFL b'.h (kn1 _ _ rfl eu) (fun v hv => ?_) (fun hn => by exact sn (hx.symm.trans hn))
  obtain rfl := si (hx.symm.trans hv)
  refine rAT b'.h (kn1 _ _ rfl et) ?_ (by walk_at "=i") (by walk_at "=o")
  walk_at "a"
  walk_at "a"
  walk_at "a"
  walk_at "a"
  walk_at "S"
  refine (look_up_C hK hw b' rep1 (okc.stat st1) okl hvv fun t2 pl bv zs σ2 sub2 et2 epl hbv hzs => ?_).call
  have rep2 := rep1.sub sub2
  refine rAT b'.h et2 ?_ (by walk_at "=i") (by walk_at "=o")
  walk_at "a"
  walk_at "a"
  walk_at "a"
  have hlen := lookV_len ch x
  have lf : ∀ {a b c d : MV}, LK (setL (setL (setL (setL ρ "view" a) "name" b) "binding" c) "passed" d) "scopes" (.ref o) := fun {a b c d} => (((l1.set (by walk_at "f")).set (by walk_at "f")).set (by walk_at "f")).set (by walk_at "f")
  have fr2 := fr1.trans (Fr.sub (Λ := Λ) (μ := μ) sub2)
  have kn2 := kn1.trans (KeepN.sub sub2)
  have e0 : markU T (ch, x) = (match lookV ch x with | (some b, _ :: _) => capB T b | _ => T) := rfl
  rw [e0] at k0
  have hlen : (lookV ch x).2.length ≤ 100 := Nat.le_trans hlen okl
  generalize lookV ch x = LV at k0 hbv hzs hlen
  obtain ⟨ob, ps⟩ := LV
  have hzl := hzs.1
  walk_at "S"
  cases ob with
  | none =>
   obtain rfl : bv = .none := hbv
   refine if_f ?_
   walk_at "S"
   exact k0 _ lf σ2 rep2 fr2 kn2 st1
  | some bb =>
   obtain ⟨d, hd, rfl⟩ : RV μ (.bi bb) bv := hbv
   refine if_t ?_
   walk_at "S"
   refine CALL_len_list epl (by simp only at hlen hzl; lia) ?_
   walk_at "S"
   cases ps with
   | nil =>
    obtain rfl := hzs.nil_of
    refine if_f ?_
    walk_at "S"
    exact k0 _ lf σ2 rep2 fr2 kn2 st1
   | cons k ps =>
    refine if_b (fun U => ?_) (fun hc => by simp at hc; subst hc; simp at hzl)
    walk_at "S"
    refine SETA_cap hK rep2 hd fun σ3 rep3 fr3 kn3 => ?_
    walk_at "S"
    exact k0 _ lf σ3 rep3 (fr2.trans fr3) (kn2.trans kn3) (st1.trans capB_stat)
 rintro ρ l1 σ1 rep1 fr1 kn1 st1
 refine rFL b'.h (kn1 _ _ rfl eu) (fun v hv => by have := (Gs hv).1; lia) (fun U => ?_)
 rw [List.drop_zero] at rep1 st1
 unfold markA at h
 generalize uses.foldl markU S = S1 at h rep1 st1
 walk_at "S"
 refine ITR_list (kn1 _ _ rfl eo) ?_
 refine up_fold (ys := order) (f := markS) (P := fun ρ => LK ρ "scopes" (.ref o)) (R := fun i ρ (T : AS) => ∀ σ', Rep w Λ D μ T σ' → Fr Λ μ σ μ σ' → KeepN σ σ' → Stat S T → RF _ _ _ _ _ (.list o i) FF ρ σ')
  ?_ order.length 0 _ S1 (Nat.zero_add _) l1 ?_ σ1 rep1 fr1 kn1 st1
 ·rintro i k ρ T l1 hi k0 σ2 rep2 fr2 kn2 st2
  obtain ⟨_, hx, a, ha, rfl⟩ := ho.get hi
  refine rFL b'.h (kn2 _ _ rfl eo) (fun v hv => ?_) (fun hn => by exact sn (hx.symm.trans hn))
  obtain rfl := si (hx.symm.trans hv)
  walk_at "a"
  walk_at "S"
  unfold markS at k0
  refine GET_self hK rep2 ha (P := fun v => v = .bool (T.sc k).ua) (by decide) (fun fs g => ⟨_, g.ua, rfl⟩) ?_
  rintro _ rfl
  refine TRU_bool ?_
  refine if_b (fun hc => ?_) (fun hc => ?_)
  ·rw [hc] at k0
   walk_at "S"
   refine GET_self hK rep2 ha (P := fun v => v = .bool (T.sc k).strict) (by decide) (fun fs g => ⟨_, g.strict, rfl⟩) ?_
   rintro _ rfl
   refine TRU_bool ?_
   cases hs : (T.sc k).strict with
   | true =>
    rw [hs] at k0
    refine if_f ?_
    walk_at "S"
    exact k0 _ (l1.set (by walk_at "f")) σ2 rep2 fr2 kn2 st2
   | false =>
    rw [hs] at k0
    rw [show (true && !false) = true from rfl, if_pos rfl] at k0
    refine if_t ?_
    walk_at "S"
    refine GET_self hK rep2 ha (P := RV μ (.par k)) (by decide) (fun fs g => by refine xe12 g.params fun a e q => ?_; exact ⟨_, e, a, q, rfl⟩) ?_
    rintro _ ⟨pa, hpa, rfl⟩
    refine xe12 (rep2.at_ _ _ hpa) fun U epa eq2 => ?_; obtain rfl := eq2
    refine ITR_list epa ?_
    obtain ⟨es, ep, d, hd, ed, od⟩ : ∃ es ep d, μ (.own k) = some d ∧ σ2 d = some (.dict es ep) ∧ OwnD w μ k (T.sc k).own es := by
     obtain ⟨_, _, fs, rfl, g⟩ := rep2.at_ _ _ ha
     refine xe12 g.own fun d U hd => ?_
     obtain ⟨_, ed, es, ep, rfl, od⟩ := rep2.at_ _ _ hd
     exact ⟨es, ep, d, hd, ed, od⟩
    refine up_fold (ys := (T.sc k).ps) (f := markP k) (P := fun ρ => LK ρ "scopes" (.ref o) ∧ LK ρ "scope" (.ref a)) (R := fun i ρ (T' : AS) => ∀ σ', Rep w Λ D μ T' σ' → Fr Λ μ σ μ σ' → KeepN σ σ' → KeepN σ2 σ' → Stat S T' → RF _ _ _ _ _ (.list pa i) FF ρ σ')
     ?_ (T.sc k).ps.length 0 _ T (Nat.zero_add _) ⟨l1.set (by walk_at "f"), look_eq⟩ ?_ σ2 rep2 fr2 kn2 KeepN.refl st2
    ·rintro j x ρ T' ⟨l1, l2⟩ hj k1 σ3 rep3 fr3 kn3 kn23 st3
     have hx : ((T.sc k).ps.map fun x => MV.str (w x))[j]? = some (.str (w x)) := by rw [List.getElem?_map, hj]; rfl
     refine rFL b'.h (kn23 _ _ rfl epa) (fun v hv => ?_) (fun hn => by exact sn (hx.symm.trans hn))
     obtain rfl := si (hx.symm.trans hv)
     walk_at "a"
     walk_at "S"
     refine GET_self hK rep3 ha (P := RV μ (.own k)) (by decide) (fun fs g => by refine xe12 g.own fun a e q => ?_; exact ⟨_, e, a, q, rfl⟩) ?_
     rintro _ ⟨d', hd', rfl⟩
     obtain rfl := si (hd.symm.trans hd')
     walk_at "S"
     have hxo : x ∈ (T.sc k).own := by
      rw [(st2.sc k).2.2.2.2.1]
      exact hps k (List.mem_of_getElem? hi) x (by rw [← (st2.sc k).2.2.2.1]; exact List.mem_of_getElem? hj)
     refine xe12 (od.2 x hxo) fun y e1 e2 => ?_
     refine SUB_dict (kn23 _ _ rfl ed) e2 ?_
     refine SETA_cap hK rep3 e1 fun σ4 rep4 fr4 kn4 => ?_
     walk_at "S"
     exact k1 _ ⟨l1.set (by walk_at "f"), l2.set (by walk_at "f")⟩ σ4 rep4 (fr3.trans fr4) (kn3.trans kn4) (kn23.trans kn4) (st3.trans capB_stat)
    ·rintro ρ ⟨l1, l2⟩ σ3 rep3 fr3 kn3 kn23 st3
     refine rFL b'.h (kn23 _ _ rfl epa) (fun v hv => by have := (Gs hv).1; simp at this) (fun U => ?_)
     walk_at "S"
     rw [List.drop_zero] at rep3 st3
     exact k0 _ l1 σ3 rep3 fr3 kn3 st3
  ·rw [hc] at k0
   walk_at "S"
   exact k0 _ (l1.set (by walk_at "f")) σ2 rep2 fr2 kn2 st2
 ·rintro ρ l1 σ2 rep2 fr2 kn2 st2
  refine rFL b'.h (kn2 _ _ rfl eo) (fun v hv => by have := (Gs hv).1; lia) (fun U => ?_)
  walk_at "S"
  rw [List.drop_zero] at rep2
  exact h σ2 rep2 fr2 kn2
end
end
section
inductive Walk (S : AS) : List Nat → List Nat → Prop where
 | nil : Walk S [] []
 | cons {k : Nat} {r o1 o2 : List Nat} (h1 : Walk S (S.sc k).kids o1) (h2 : Walk S r o2) : Walk S (k :: r) (k :: (o1 ++ o2))
theorem Walk.len {S : AS} {l o : List Nat} (h : Walk S l o) : l.length ≤ o.length := by
 induction h with
 | nil => exact Nat.le_refl _
 | cons h1 h2 ih1 ih2 => simp only [List.length_cons, List.length_append]; lia
theorem F2.rev {α : Type} {R : α → MV → Prop} {l : List α} {xs : List MV} (h : F2 R l xs) : F2 R l.reverse xs.reverse := by
 induction l generalizing xs with
 | nil => rw [h.nil_of]; exact F2.nil
 | cons x l ih =>
  refine xe23 h.left fun v ys eq2 r h' => ?_; obtain rfl := eq2
  rw [List.reverse_cons, List.reverse_cons]
  exact (ih h').snoc r
theorem walk_loop {S : AS} {P : Loc → Prop} {R : Loc → List Nat → List Nat → Prop} {B : Nat}
  (step : ∀ k ρ St X, P ρ → St.length + 1 ≤ B → X.length + 1 ≤ B → St.length + (S.sc k).kids.length ≤ B → (∀ ρ', P ρ' → R ρ' (St ++ (S.sc k).kids.reverse) (X ++ [k])) → R ρ (St ++ [k]) X) :
  ∀ {l o : List Nat}, Walk S l o → ∀ (ρ : Loc) (St X : List Nat), P ρ → St.length + o.length ≤ B → X.length + o.length ≤ B → (∀ ρ', P ρ' → R ρ' St (X ++ o)) → R ρ (St ++ l.reverse) X
 | _, _, .nil, ρ, St, X, p, h1, h2, k => by have := k ρ p; simpa using this
 | _, _, .cons (k := j) (r := r) (o1 := o1) (o2 := o2) w1 w2, ρ, St, X, p, h1, h2, k => by
  have l1 := w1.len
  have l2 := w2.len
  simp only [List.length_cons, List.length_append] at h1 h2
  rw [List.reverse_cons, ← List.append_assoc]
  refine step j ρ _ X p (by rw [List.length_append, List.length_reverse]; lia) (by lia) (by rw [List.length_append, List.length_reverse]; lia) fun ρ' p' => ?_
  refine walk_loop step w1 ρ' _ _ p' (by rw [List.length_append, List.length_reverse]; lia) (by rw [List.length_append, List.length_singleton]; lia) fun ρ'' p'' => ?_
  refine walk_loop step w2 ρ'' _ _ p'' (by lia) (by rw [List.length_append, List.length_append, List.length_singleton]; lia) fun ρ3 p3 => ?_
  have := k ρ3 p3
  rw [List.append_assoc, List.append_assoc]
  exact this
theorem F2.split_last {α : Type} {R : α → MV → Prop} {l : List α} {x : α} {xs : List MV} (h : F2 R (l ++ [x]) xs) : ∃ ys v, xs = ys ++ [v] ∧ F2 R l ys ∧ R x v := by
 have h' := h.rev
 rw [List.reverse_append] at h'
 refine xe23 (F2.left h') fun v ys e r h2 => ?_
 refine ⟨ys.reverse, v, ?_, ?_, r⟩
 ·rw [← List.reverse_reverse xs, e, List.reverse_cons]
 ·have := F2.rev h2
  have e2 : (([] : List α).append l.reverse).reverse = l := List.reverse_reverse l
  rw [e2] at this
  exact this
section
variable {C : Cx} (hK : PK C) {A : Around} {n : Nat} {σ Λ : Sto} {w : N → Str} {D : List (Addr × Role)} {μ : Map} {S : AS}
include hK
theorem all_scopes_C (b : Bud A (n + 1)) (rep : Rep w Λ D μ S σ) {a : Addr} {k : Nat} {order : List Nat} (ha : μ (.sc k) = some a) (wk : Walk S [k] order) (hl : order.length ≤ 100000) {Q : MV → Sto → Prop}
  (h : ∀ d xs, σ d = none → SCS μ order xs → Q (.ref d) (σ.set d (.list xs))) : CALLC C A (.ref 263) [.ref a] σ Q := by
 refine runFn hK (f := 263) ["root"] (fun U => rfl) (fun U => rfl) rfl rfl (ar1 fun U => rfl) rfl rfl b fun FF e1 e2 hK b' => ?_
 subst e1 e2
 walk_at "S"
 with_reducible refine rSwap (names := [Str.ofString "found", Str.ofString "waiting"]) b'.h ?_ (by walk_at "=i") (by walk_at "=T") (by walk_at "=s")
 walk_at "S"
 refine ⟨by simp, fun fo hfo => ?_⟩
 walk_at "S"
 refine ⟨by simp, fun wa hwa => ?_⟩
 walk_at "S"
 refine ⟨rfl, by decide, ?_⟩
 have hne : wa ≠ fo := by rintro rfl; rw [Sto.set_self] at hwa; exact sn hwa
 have hwa' : σ wa = none := by rwa [Sto.set_ne _ _ hne] at hwa
 have sub : ∀ xs ys, Sub σ (two σ wa fo xs ys) := fun xs ys a o e => two_old hwa' hfo e
 have repT : ∀ xs ys, Rep w Λ D μ S (two σ wa fo xs ys) := fun xs ys => rep.sub (sub xs ys)
 rw [two_swap hne]
 walk_at "S"
 refine walk_loop (B := 200000) (P := fun ρ => LK ρ "found" (.ref fo) ∧ LK ρ "waiting" (.ref wa)) (R := fun ρ St X => ∀ xs ys, SCS μ St xs → SCS μ X ys → RW _ _ _ _ _ FF ρ (two σ wa fo xs ys)) ?_ wk _ [] [] ⟨by rfl, by rfl⟩ (by simp only [List.length_nil]; lia) (by simp only [List.length_nil]; lia) ?_ _ _ (F2.nil.snoc ⟨a, ha, rfl⟩) F2.nil
 ·rintro j ρ St X ⟨p1, p2⟩ z1 z2 z3 k0 xs ys hxs hys
  obtain ⟨zs, v, rfl, hzs, ⟨ja, hja, rfl⟩⟩ := hxs.split_last
  have e1 := hzs.1
  have e2 := hys.1
  refine rWh ?_
  walk_at "S"
  refine CALL_len_list (two_wa hne) (by rw [List.length_append, List.length_singleton]; lia) ?_
  walk_at "S"
  refine if_b (fun U => ?_) (fun hc => by simp at hc)
  walk_at "S"
  refine METH_pop (two_wa hne) ?_
  walk_at "S"
  refine CALL_pop (two_wa hne) (by lia) ?_
  rw [two_set_wa hne]
  walk_at "S"
  refine METH_append two_fo ?_
  walk_at "S"
  refine CALL_append two_fo (by lia) ?_
  rw [two_set_fo]
  walk_at "S"
  refine METH_extend (two_wa hne) ?_
  walk_at "S"
  refine GET_self hK (repT _ _) hja (P := RV μ (.kids j)) (by decide) (fun fs g => by refine xe12 g.kids fun a e q => ?_; exact ⟨_, e, a, q, rfl⟩) ?_
  rintro _ ⟨ca, hca, rfl⟩
  obtain ⟨_, eca, cs, rfl, hcs⟩ := rep.at_ _ _ hca
  have e3 := hcs.1
  have hk := k0 (setL ρ "here" (.ref ja)) ⟨p1.set (by walk_at "f"), p2.set (by walk_at "f")⟩
  have hk := hk (zs ++ cs.reverse) (ys ++ [.ref ja]) (hzs.app hcs.rev) (hys.snoc ⟨ja, hja, rfl⟩)
  walk_at "S"
  refine SLC_rev (sub _ _ _ _ eca) (by lia) fun d2 hd2 => ?_
  walk_at "S"
  refine CALL_extend (keep_new hd2 (two_wa hne)) (Sto.set_self ..) (by lia) (by rw [List.length_reverse]; lia) ?_
  walk_at "S"
  refine WH.sub (fun a_1 o e => ?_) hk
  rw [← two_set_wa (S := zs) hne] at e
  by_cases h1 : a_1 = wa
  ·subst h1; rw [Sto.set_self] at e ⊢; exact e
  ·rw [Sto.set_ne _ _ h1] at e ⊢
   exact keep_new hd2 e
 ·rintro ρ ⟨p1, p2⟩ xs ys hxs hys
  obtain rfl := hxs.nil_of
  refine rWh ?_
  walk_at "S"
  refine CALL_len_list (xs := []) (two_wa hne) (by simp) ?_
  walk_at "S"
  refine if_f (RX.sub (two_sub hwa' hne) ?_)
  walk_at "S"
  rw [List.nil_append] at hys
  exact h _ _ hfo hys
end
end
section
theorem BIN_add_list {C : Cx} {A : Around} {σ : Sto} {a b : Addr} {xs ys : List MV} {Q : MV → Sto → Prop} (e : σ a = some (.list xs)) (e' : σ b = some (.list ys)) (hz : xs.length + ys.length ≤ 4000000) (h : ∀ d, σ d = none → Q (.ref d) (σ.set d (.list (xs ++ ys)))) : BIN C A .Add (.ref a) (.ref b) σ Q := fun av bv e1 e2 η s g => by
 obtain rfl := MV.of_ref e1
 obtain rfl := MV.of_ref e2
 refine xe22 (list_open g e) fun its n ho hm => ?_
 refine xe22 (list_open g e') fun its2 n2 ho2 hm2 => ?_
 refine PySem.P.add_list ho ho2 ?_ (le_line (by rw [list_size hm, list_size hm2]; exact hz))
 have f := g.fresh (Nat.le_refl s.heap.objs.size)
 refine ⟨_, ?_, h _ f.1⟩
 have := new_list (vs := its.toList ++ its2.toList) g
 rw [List.map_append, hm, hm2, show (its.toList ++ its2.toList).toArray = its ++ its2 by simp] at this
 exact this
noncomputable def newCt (S : AS) (ch : List VE) (x : N) : AS := { S with m := S.m + 1, ct := upd S.ct S.m ⟨ch, x⟩ }
noncomputable def newSc (S : AS) (ch : List VE) (strict ua : Bool) (ps own : List N) (sf : Option N) : AS := { S with n := S.n + 1, sc := upd S.sc S.n ⟨ch, strict, ua, ps, own, sf, [], [], 0, 0, [], [], []⟩ }
section
variable {w : N → Str} {μ : Map} {S : AS} {σ Λ : Sto} {D : List (Addr × Role)}
theorem Good.newCt {ch : List VE} {x : N} {r : Role} {o : MO} (l : Lim S r) (g : Good w μ S σ r o) : Good w μ (newCt S ch x) σ r o := by
 cases r with
 | ct c =>
  have hc : c < S.m := l
  show ∃ fs, _ ∧ GCt w μ c (upd S.ct S.m ⟨ch, x⟩ c).ch (upd S.ct S.m ⟨ch, x⟩ c).nm fs
  rw [upd_ne _ _ (by lia)]; exact g
 | bi b =>
  refine xe12 g fun fs e g => ?_
  refine ⟨fs, e, ?_, g.sort, g.cap, g.place, g.len⟩
  refine xe12 g.name fun y h1 h2 => ?_
  refine ⟨y, ?_, h2⟩
  cases b with
  | ct c =>
   have hc : c < S.m := l
   show some (upd S.ct S.m ⟨ch, x⟩ c).nm = some y
   rw [upd_ne _ _ (by lia)]; exact h1
  | _ => exact h1
 | _ => exact g
theorem Good.newSc {ch : List VE} {strict ua : Bool} {ps own : List N} {sf : Option N} {r : Role} {o : MO} (l : Lim S r) (g : Good w μ S σ r o) : Good w μ (newSc S ch strict ua ps own sf) σ r o := by
 have key : ∀ k, k < S.n → (Mine.newSc S ch strict ua ps own sf).sc k = S.sc k := fun k hk => upd_ne _ _ (by lia)
 cases r with
 | ct c => exact g
 | bi b =>
  refine xe12 g fun fs e g => ?_
  refine ⟨fs, e, ?_, g.sort, g.cap, g.place, g.len⟩
  refine xe12 g.name fun y h1 h2 => ?_
  refine ⟨y, ?_, h2⟩
  cases b with
  | self k => show ((Mine.newSc S ch strict ua ps own sf).sc k).sf = some y; rw [key k l]; exact h1
  | _ => exact h1
 | _ => unfold Good at g ⊢; dsimp only at g ⊢; rw [key _ l]; exact g
end
section
variable {C : Cx} (hK : PK C) {A : Around} {n : Nat} {σ Λ : Sto} {w : N → Str} {D : List (Addr × Role)} {μ : Map} {S : AS}
include hK
theorem Catch_new (b : Bud A (n + 4)) (rep : Rep w Λ D μ S σ) {a p : Addr} {kd : Str} {u : MV} {x : N} {rest : List MV} {ch : List VE} {pv : MV} (nd : Nd Λ a kd p (u :: .str (w x) :: rest)) (hv : VV μ ch pv) (hpv : pv.hok = true) (hc : S.cap (.ct S.m) = false) (hp : S.pl (.ct S.m) = none) {Q : MV → Sto → Prop}
  (h : ∀ d μ' σ', μ' (.ct S.m) = some d → Rep w Λ D μ' (newCt S ch x) σ' → Fr Λ μ σ μ' σ' → (∀ r, r ≠ .ct S.m → r ≠ .bi (.ct S.m) → μ' r = μ r) → Q (.ref d) σ') : CALL C A (.ref 233) [.ref a, pv] σ Q := by
 refine CALL_make (hK ▸ mkC _) (hK ▸ inC _) (hK ▸ tyC _) b fun d A' hd b' => ?_
 refine runFnQ hK (f := 202) ["self", "node", "parent"] (fun U => rfl) (fun U => rfl) rfl rfl (ar3 fun U U U => rfl) rfl rfl b' fun FF e1 eQ hK b' => ?_
 subst e1
 have onT : ∀ o, On Λ (σ.set d o) := fun o => rep.on.new hd
 walk_at "S"
 refine SETA_own (Sto.set_self ..) (Nb rfl) rfl (OS_catch hK (by decide)) ?_
 rw [set_set]
 walk_at "S"
 refine SETA_own (Sto.set_self ..) (Nb rfl) hpv (OS_catch hK (by decide)) ?_
 rw [set_set]
 walk_at "S"
 refine SETA_own (Sto.set_self ..) (Nb rfl) rfl (OS_catch hK (by decide)) ?_
 rw [set_set]
 walk_at "S"
 refine GET_parts hK nd (onT _) ?_
 walk_at "S"
 refine SUB_list ((onT _).list nd.ps) (by decide) (by decide) rfl ?_
 walk_at "S"
 refine SETA_own (Sto.set_self ..) (Nb rfl) rfl (OS_catch hK (by decide)) ?_
 rw [set_set]
 walk_at "S"
 refine GET_own (Sto.set_self ..) (by walk_at "look") (OA_catch hK (by decide)) ?_
 walk_at "S"
 refine Binding_new hK b' fun bd hbd => ?_
 have hne : bd ≠ d := by rintro rfl; rw [Sto.set_self] at hbd; exact sn hbd
 have hbd' : σ bd = none := by rwa [Sto.set_ne _ _ hne] at hbd
 walk_at "S"
 refine SETA_own (keep_new hbd (Sto.set_self ..)) (Nb rfl) rfl (OS_catch hK (by decide)) ?_
 rw [set_swap hne, set_set, set_swap (Ne.symm hne)]
 walk_at "S"
 refine eQ _ _ ⟨rfl, ?_⟩
 have m1 : μ (.bi (.ct S.m)) = none := by
  cases q : μ (.bi (.ct S.m)) with
  | none => rfl
  | some z => have : S.m < S.m := rep.lim _ _ q; lia
 have m2 : μ (.ct S.m) = none := by
  cases q : μ (.ct S.m) with
  | none => rfl
  | some z => have : S.m < S.m := rep.lim _ _ q; lia
 have sub : ∀ o o', Sub σ ((σ.set bd o).set d o') := fun o o' a x e => keep_ne (by rintro rfl; exact nn (hd.symm.trans e)) (keep_new hbd' e)
 generalize hfs : (setL _ (Str.ofString "caught") (MV.ref bd) : Loc) = fs
 have rep1 : Rep w Λ D μ (newCt S ch x) ((σ.set bd (.inst 114 (bindFs (w x) "catch"))).set d (.inst 233 fs)) := (rep.sub (sub _ _)).abs (fun r o l g => g.newCt l) (Nat.le_refl _) (Nat.le_succ _)
 have o1 : Off μ bd := Off.new rep hbd'
 have o2 : Off μ d := Off.new rep hd
 have rep2 := rep1.add (r := .bi (.ct S.m)) (a := bd) (keep_ne hne (Sto.set_self ..)) (rep.fresh hbd') o1 m1 (Nat.lt_succ_self _) fun ms => ⟨_, rfl, ⟨x, by show some (upd S.ct S.m ⟨ch, x⟩ S.m).nm = some x; rw [upd_self], by rfl⟩, by rfl, by show LK _ _ (.bool (S.cap (.ct S.m))); rw [hc]; rfl, ⟨.none, by rfl, by show PV _ (S.pl (.ct S.m)) _; rw [hp]; rfl⟩, by show 4 ≤ 100; lia⟩
 have m3 : upd μ (.bi (.ct S.m)) (some bd) (.ct S.m) = none := by rw [upd_ne _ _ (show Role.ct S.m ≠ Role.bi (.ct S.m) from nofun)]; exact m2
 have rep3 := rep2.add (r := .ct S.m) (a := d) (Sto.set_self ..) (rep.fresh hd) (o2.upd (Ne.symm hne)) m3 (Nat.lt_succ_self _) fun ms => by
  refine ⟨fs, rfl, ?_⟩
  show GCt w _ S.m (upd S.ct S.m ⟨ch, x⟩ S.m).ch (upd S.ct S.m ⟨ch, x⟩ S.m).nm fs
  rw [upd_self]
  subst hfs
  refine ⟨⟨pv, by walk_at "look", (hv.mono (upd_msub m1)).mono ms⟩, by walk_at "look", ⟨bd, by walk_at "look", by rw [upd_ne _ _ (show Role.bi (.ct S.m) ≠ Role.ct S.m from nofun), upd_self]⟩, fun y hy => ?_⟩
  have : y ≠ "node" ∧ y ≠ "parent" ∧ y ≠ "sort" ∧ y ≠ "name" ∧ y ≠ "caught" := by
   revert hy; revert y; decide
  refine xe05 this fun n1 n2 n3 n4 n5 => ?_
  exact look_ne (beq_eq_false_iff_ne.mpr n5) (look_ne (beq_eq_false_iff_ne.mpr n4) (look_ne (beq_eq_false_iff_ne.mpr n3) (look_ne (beq_eq_false_iff_ne.mpr n2) (look_ne (beq_eq_false_iff_ne.mpr n1) rfl))))
 have ms2 : MSub μ (upd (upd μ (.bi (.ct S.m)) (some bd)) (.ct S.m) (some d)) := fun r z e => upd_msub m3 _ _ (upd_msub m1 _ _ e)
 refine h d _ _ (upd_self ..) rep3 ⟨ms2, (sub _ _).tup, fun z o U hz e => ⟨sub _ _ _ _ e, ?_⟩⟩ fun r h1 h2 => by rw [upd_ne _ _ h1, upd_ne _ _ h2]
 exact (hz.upd (by rintro rfl; exact nn (hbd'.symm.trans e))).upd (by rintro rfl; exact nn (hd.symm.trans e))
end
end
section
structure Fr2 (Λ : Sto) (μ : Map) (τ : Sto) (μ' : Map) (τ' : Sto) (s od : Addr) : Prop where
 m : MSub μ μ'
 t : Tup τ τ'
 k : ∀ a o, Λ a = none → Off μ a → a ≠ od → a ≠ s → τ a = some o → τ' a = some o ∧ Off μ' a
 s : Off μ' s
 od : Off μ' od
 r : ∀ r, (∀ b, r ≠ .bi b) → μ' r = μ r
theorem OwnD.snoc {w : N → Str} {μ : Map} {k : Nat} {own : List N} {es : Loc} (hw : ∀ x y, w x = w y → x = y) (h : OwnD w μ k own es) {x : N} {a : Addr} (hx : x ∉ own) (ha : μ (.bi (.own k x)) = some a) : OwnD w μ k (own ++ [x]) (es ++ [(w x, .ref a)]) := by
 refine ⟨by rw [List.map_append, List.map_append, h.1]; rfl, fun y hy => ?_⟩
 have hm := h.mem hw
 rcases List.mem_append.mp hy with hy | hy
 ·refine xe12 (h.2 y hy) fun z e1 e2 => ?_
  exact ⟨z, e1, by rw [List.lookup_append, e2]; rfl⟩
 ·obtain rfl := List.mem_singleton.mp hy
  refine ⟨a, ha, ?_⟩
  have : es.lookup (w y) = none := by
   have := hm y
   rw [decide_eq_false hx] at this
   cases q : es.lookup (w y) with
   | none => rfl
   | some _ => rw [q] at this; exact tf this
  rw [List.lookup_append, this]
  simp
section
variable {C : Cx} (hK : PK C) {A : Around} {n : Nat} {τ Λ : Sto} {w : N → Str} (hw : ∀ x y, w x = w y → x = y) {D : List (Addr × Role)} {μ : Map} {S : AS}
include hK hw
theorem declare_C (b : Bud A (n + 7)) (rep : Rep w Λ D μ S τ) {a p pd pp pb s od : Addr} {k ep : Nat} {fs : Loc} {ps own : List N} {ds vs ns : List (Option Str)} {x : N} {st : Bool} {kd : Str} (hkn : k < S.n)
  (es : τ s = some (.inst 184 fs)) (f1 : LK fs "params" (.ref pd)) (f2 : LK fs "body" (.ref pb)) (f3 : LK fs "node" (.ref a)) (f4 : LK fs "own" (.ref od)) (f5 : LK fs "self_binding" .none) (hfl : fs.length ≤ 90)
  (eod : τ od = some (.dict [] ep)) (epd : τ pd = some (.list (ps.map fun x => .str (w x)))) (os : Off μ s) (oo : Off μ od) (ls : Λ s = none) (lo : Λ od = none)
  (nd : Nd Λ a "Function" p [.str (w x), .ref pp, .ref pb, .bool st, .str kd]) (bd : Body Λ pb ds vs ns) (hp : ps.length ≤ 10) (hv : vs.length ≤ 300) (hdl : ds.length ≤ 300)
  (ho : bindNames (ps.map w) ds vs ns = own.map w) (hnd : own.Nodup) (hsf : (S.sc k).sf = if kd = "expr" ∧ x ∉ own then some x else none) (hol : own.length ≤ 900)
  (hf : ∀ y, μ (.bi (.own k y)) = none) (hf2 : μ (.bi (.self k)) = none) (hcap : ∀ b, S.cap b = false) (hpl : ∀ b, S.pl b = none) {Q : MV → Sto → Prop}
  (h : ∀ μ' τ' es ep' fs', Rep w Λ D μ' S τ' → τ' od = some (.dict es ep') → OwnD w μ' k own es → τ' s = some (.inst 184 fs') → (∀ y : Str, y ≠ "self_binding" → fs'.lookup y = fs.lookup y) → fs'.length ≤ fs.length + 1 → (∃ v, LK fs' "self_binding" v ∧ SV μ' k (S.sc k).sf v) →
   Fr2 Λ μ τ μ' τ' s od → Q .none τ') : CALLC C A (.ref 137) [.ref s] τ Q := by
 have sod : s ≠ od := by rintro rfl; rw [es] at eod; cases eod
 refine runFn hK (f := 137) ["self"] (fun U => rfl) (fun U => rfl) rfl rfl (ar1 fun U => rfl) rfl rfl b fun FF e1 e2 hK b' => ?_
 subst e1 e2
 walk_at "S"
 refine GET_own es f1 (OA_scope hK (by decide)) ?_
 walk_at "S"
 refine GET_own es f2 (OA_scope hK (by decide)) ?_
 walk_at "S"
 refine (binding_names_C hK b' rep.on bd (by rw [epd, List.map_map]; rfl) (by simpa using hp) hv hdl fun d hd => ?_).call
 rw [ho, List.map_map]
 have hds : d ≠ s := by rintro rfl; exact sn (es.symm.trans hd)
 have hdo : d ≠ od := by rintro rfl; exact sn (eod.symm.trans hd)
 refine ITR_list (Sto.set_self ..) ?_
 have ld : Λ d = none := rep.fresh hd
 have offd : Off μ d := Off.new rep hd
 have rep1 := rep.sub (Sub.new (o := .list (own.map (MV.str ∘ w))) hd)
 have fr1 : Fr2 Λ μ τ μ (τ.set d (.list (own.map (MV.str ∘ w)))) s od := ⟨MSub.refl, (Sub.new hd).tup, fun a o U h2 U U e => ⟨keep_new hd e, h2⟩, os, oo, fun U U => rfl⟩
 have ed : (τ.set d (.list (own.map (MV.str ∘ w)))) d = some (.list (own.map (MV.str ∘ w))) := Sto.set_self ..
 have es1 := keep_new (x := .list (own.map (MV.str ∘ w))) hd es
 have eod1 := keep_new (x := .list (own.map (MV.str ∘ w))) hd eod
 generalize τ.set d (.list (own.map (MV.str ∘ w))) = τ1 at rep1 fr1 ed es1 eod1
 refine up_fold (β := Unit) (ys := own) (f := fun U U => ()) (P := fun ρ => LK ρ "self" (.ref s)) (R := fun i ρ U => ∀ τ' μ' es ep', Rep w Λ D μ' S τ' → Fr2 Λ μ τ μ' τ' s od → τ' d = some (.list (own.map (MV.str ∘ w))) → Off μ' d → τ' s = some (.inst 184 fs) → τ' od = some (.dict es ep') → OwnD w μ' k (own.take i) es → (∀ y, y ∉ own.take i → μ' (.bi (.own k y)) = none) → μ' (.bi (.self k)) = none → RF _ _ _ _ _ (.list d i) FF ρ τ')
  ?_ own.length 0 _ () (Nat.zero_add _) (by rfl) ?_ τ1 μ [] ep rep1 fr1 ed offd es1 eod1 ⟨rfl, fun y hy => by cases hy⟩ (fun y U => hf y) hf2
 ·rintro i x ρ - l1 hi k0 τ2 μ2 es2 ep2 rep2 fr2 ed2 od2 es2' eod2 own2 free2 free2'
  have hx : (own.map (MV.str ∘ w))[i]? = some (.str (w x)) := by rw [List.getElem?_map, hi]; rfl
  have hlt := (Gs hi).1
  refine rFL b'.h ed2 (fun v hv => ?_) (fun hn => by exact sn (hx.symm.trans hn))
  obtain rfl := si (hx.symm.trans hv)
  walk_at "a"
  walk_at "S"
  refine Binding_new hK (n := n) (b'.mono (by lia)) fun bb hbb => ?_
  walk_at "S"
  refine GET_own (keep_new hbb es2') f4 (OA_scope hK (by decide)) ?_
  walk_at "S"
  have hxn : x ∉ own.take i := by
   intro hm
   refine xe11 (List.getElem?_of_mem hm) fun j hj => ?_
   have hji : j < i := by have := (Gs hj).1; rw [List.length_take] at this; lia
   rw [List.getElem?_take_of_lt hji] at hj
   have hj1 := (Gs hj)
   have hi1 := (Gs hi)
   exact List.pairwise_iff_getElem.mp hnd j i hj1.1 hi1.1 hji (by rw [hj1.2, hi1.2])
  have hlook : es2.lookup (w x) = none := by
   have := own2.mem hw x
   rw [decide_eq_false hxn] at this
   cases q : es2.lookup (w x) with
   | none => rfl
   | some _ => rw [q] at this; exact tf this
  have hel : es2.length ≤ 900 := by have := congrArg List.length own2.1; simp at this; lia
  refine SETI_dict (keep_new hbb eod2) (by lia) hlook fun ep3 => ?_
  walk_at "S"
  have hbs : bb ≠ s := by rintro rfl; exact sn (es2'.symm.trans hbb)
  have hbo : bb ≠ od := by rintro rfl; exact sn (eod2.symm.trans hbb)
  have hbd : bb ≠ d := by rintro rfl; exact sn (ed2.symm.trans hbb)
  have fx := free2 x hxn
  have rep3 := (rep2.sub (Sub.new (o := .inst 114 (bindFs (w x) "own")) hbb)).add (r := .bi (.own k x)) (a := bb) (Sto.set_self ..) (rep2.fresh hbb) (Off.new rep2 hbb) fx hkn
   fun ms => ⟨_, rfl, ⟨x, rfl, by rfl⟩, by rfl, by rw [hcap]; rfl, ⟨.none, by rfl, by rw [hpl]; rfl⟩, by show 4 ≤ 100; lia⟩
  have ms := upd_msub (μ := μ2) (a := bb) fx
  have oo3 : Off (upd μ2 (.bi (.own k x)) (some bb)) od := fr2.od.upd (Ne.symm hbo)
  have rep4 := rep3.tmp (a := od) (o := .dict (es2 ++ [(w x, .ref bb)]) ep3) oo3 lo (fun y hy => by obtain rfl := si ((keep_new hbb eod2).symm.trans hy); rfl)
  refine k0 _ (l1.set (by walk_at "f")) _ _ _ ep3 rep4 ?_ (keep_ne hdo (keep_new hbb ed2)) (od2.upd (Ne.symm hbd)) (keep_ne sod (keep_new hbb es2')) (Sto.set_self ..) ?_ (fun y hy => ?_) ?_
  ·refine ⟨fun r z e => ms _ _ (fr2.m _ _ e), fun t zs e => keep_ne ?_ (keep_new hbb (fr2.t _ _ e)), fun z o q1 q2 q3 q4 e => ?_, fr2.s.upd (Ne.symm hbs), oo3, fun r hr => by rw [upd_ne _ _ (hr _)]; exact fr2.r r hr⟩
   ·rintro rfl; have := fr2.t _ _ e; rw [eod2] at this; cases this
   ·refine xe02 (fr2.k z o q1 q2 q3 q4 e) fun e1 e2 => ?_
    exact ⟨keep_ne q3 (keep_new hbb e1), e2.upd (by rintro rfl; exact nn (hbb.symm.trans e1))⟩
  ·rw [List.take_add_one, hi]
   exact (own2.mono ms).snoc hw hxn (upd_self ..)
  ·rw [List.take_add_one, hi] at hy
   rw [upd_ne _ _ (by rintro ⟨⟩; exact hy (by simp))]
   exact free2 y fun z => hy (List.mem_append_left _ z)
  ·rw [upd_ne _ _ (show Role.bi (.self k) ≠ Role.bi (.own k x) from nofun)]; exact free2'
 rintro ρ l1 τ2 μ2 es2 ep2 rep2 fr2 ed2 od2 es2' eod2 own2 free2 free2'
 refine rFL b'.h ed2 (fun v hv => by have := (Gs hv).1; simp at this) (fun U => ?_)
 rw [List.take_length] at own2
 walk_at "S"
 with_reducible refine rSwap (names := [Str.ofString "name", Str.ofString "sort"]) b'.h ?_ (by walk_at "=i") (by walk_at "=T") (by walk_at "=s")
 walk_at "S"
 refine GET_own es2' f3 (OA_scope hK (by decide)) ?_
 walk_at "S"
 refine GET_parts hK nd rep2.on ?_
 walk_at "S"
 refine SUB_list (rep2.on.list nd.ps) (by decide) (by decide) rfl ?_
 walk_at "S"
 refine GET_own es2' f3 (OA_scope hK (by decide)) ?_
 walk_at "S"
 refine GET_parts hK nd rep2.on ?_
 walk_at "S"
 refine SUB_list (rep2.on.list nd.ps) (by decide) (by decide) rfl ?_
 walk_at "S"
 refine ⟨rfl, by decide, ?_⟩
 rw [show setMany ρ [("name" : Str), "sort"].reverse [MV.str (w x), MV.str kd].reverse = setL (setL ρ "sort" (.str kd)) "name" (.str (w x)) from rfl]
 walk_at "S"
 have fin0 : (S.sc k).sf = none → FF.Q .none τ2 := fun e => h μ2 τ2 es2 ep2 fs rep2 eod2 own2 es2' (fun U U => rfl) (Nat.le_succ _) ⟨.none, f5, by rw [e]; rfl⟩ fr2
 refine if_b (fun hc => ?_) (fun hc => ?_)
 ·have hkd : kd = "expr" := by simpa using hc
  walk_at "S"
  refine if_t ?_
  walk_at "S"
  refine GET_own es2' f4 (OA_scope hK (by decide)) ?_
  walk_at "S"
  refine CMP_notin_dict hK.big eod2 ?_
  rw [own2.mem hw]
  by_cases hx : x ∈ own
  ·rw [decide_eq_true hx]
   refine TRU_bool ?_
   refine if_f ?_
   walk_at "S"
   exact fin0 (by rw [hsf, if_neg fun z => z.2 hx])
  ·rw [decide_eq_false hx]
   refine TRU_bool ?_
   refine if_t ?_
   walk_at "S"
   rw [if_pos ⟨hkd, hx⟩] at hsf
   refine Binding_new hK (n := n) (b'.mono (by lia)) fun bb hbb => ?_
   walk_at "S"
   have hbs : bb ≠ s := by rintro rfl; exact sn (es2'.symm.trans hbb)
   have hbo : bb ≠ od := by rintro rfl; exact sn (eod2.symm.trans hbb)
   refine SETA_own (keep_new hbb es2') (by lia) rfl (OS_scope hK (by decide)) ?_
   walk_at "S"
   have rep3 := (rep2.sub (Sub.new (o := .inst 114 (bindFs (w x) "self")) hbb)).add (r := .bi (.self k)) (a := bb) (Sto.set_self ..) (rep2.fresh hbb) (Off.new rep2 hbb) free2' hkn
    fun ms => ⟨_, rfl, ⟨x, hsf, by rfl⟩, by rfl, by rw [hcap]; rfl, ⟨.none, by rfl, by rw [hpl]; rfl⟩, by show 4 ≤ 100; lia⟩
   have ms := upd_msub (μ := μ2) (a := bb) free2'
   have os3 : Off (upd μ2 (.bi (.self k)) (some bb)) s := fr2.s.upd (Ne.symm hbs)
   have rep4 := rep3.tmp (a := s) (o := .inst 184 (setL fs "self_binding" (.ref bb))) os3 ls (fun y hy => by obtain rfl := si ((keep_new hbb es2').symm.trans hy); rfl)
   refine h _ _ _ ep2 _ rep4 (keep_ne (Ne.symm sod) (keep_new hbb eod2)) (own2.mono ms) (Sto.set_self ..) (fun y hy => look_ne (beq_eq_false_iff_ne.mpr hy) rfl) (by rw [setL_length]; split <;> lia) ⟨.ref bb, look_eq, by rw [hsf]; exact ⟨bb, upd_self .., rfl⟩⟩ ?_
   refine ⟨fun r z e => ms _ _ (fr2.m _ _ e), fun t zs e => keep_ne ?_ (keep_new hbb (fr2.t _ _ e)), fun z o q1 q2 q3 q4 e => ?_, os3, fr2.od.upd (Ne.symm hbo), fun r hr => by rw [upd_ne _ _ (hr _)]; exact fr2.r r hr⟩
   ·rintro rfl; have := fr2.t _ _ e; rw [es2'] at this; cases this
   ·refine xe02 (fr2.k z o q1 q2 q3 q4 e) fun e1 e2 => ?_
    exact ⟨keep_ne q4 (keep_new hbb e1), e2.upd (by rintro rfl; exact nn (hbb.symm.trans e1))⟩
 ·have hkd : kd ≠ "expr" := by simpa using hc
  walk_at "S"
  exact fin0 (by rw [hsf, if_neg fun z => hkd z.1])
end
end
section
noncomputable def Ch : List Str → List MV → Loc
 | x :: ks, v :: vs => setL (Ch ks vs) x v
 | _, _ => []
theorem Ch.get {x : Str} {ks : List Str} : ∀ {vs : List MV} {i : Nat} {v : MV}, ks.idxOf x = i → vs.length = ks.length → vs[i]? = some v → (Ch ks vs).lookup x = some v := by
 induction ks with
 | nil => intro vs i v e hl h; rw [List.eq_nil_of_length_eq_zero hl] at h; exact nomatch h
 | cons k ks ih =>
  intro vs i v e hl h
  cases vs with
  | nil => exact nomatch hl
  | cons u vs =>
   subst e
   by_cases q : k = x
   ·subst q; rw [List.idxOf_cons_self] at h; obtain rfl := si h; exact look_eq
   ·rw [List.idxOf_cons, beq_eq_false_iff_ne.mpr q] at h
    exact look_ne (beq_eq_false_iff_ne.mpr (Ne.symm q)) (ih rfl (Nat.succ.inj hl) h)
theorem Ch.none {x : Str} {ks : List Str} : ∀ (vs : List MV), x ∉ ks → (Ch ks vs).lookup x = none := by
 induction ks with
 | nil => exact fun U U => rfl
 | cons k ks ih =>
  intro vs h
  cases vs with
  | nil => rfl
  | cons u vs => exact look_ne (beq_eq_false_iff_ne.mpr fun e => h (e ▸ List.mem_cons_self)) (ih vs fun q => h (List.mem_cons_of_mem _ q))
theorem Ch.len : ∀ (ks : List Str) (vs : List MV), (Ch ks vs).length ≤ ks.length
 | [], _ => Nat.le_refl _
 | _ :: _, [] => Nat.zero_le _
 | _ :: ks, _ :: vs => setL_le (Ch.len ks vs)
structure Bld (σ τ : Sto) (s : Addr) (ks : List Str) (vs : List MV) (L : List (Addr × MO)) : Prop where
 hs : σ s = none
 sub : Sub σ τ
 at_ : τ s = some (.inst 184 (Ch ks vs))
 new : ∀ q ∈ L, σ q.1 = none ∧ q.1 ≠ s ∧ τ q.1 = some q.2
 nd : (L.map (·.1)).Nodup
 len : vs.length = ks.length
theorem sub_off {σ τ : Sto} {a : Addr} {o : MO} (h : Sub σ τ) (ha : σ a = none) : Sub σ (τ.set a o) := fun b x e => keep_ne (by rintro rfl; exact nn (ha.symm.trans e)) (h b x e)
section
variable {σ τ τ' : Sto} {s d : Addr} {ks : List Str} {vs : List MV} {L : List (Addr × MO)} {o : MO}
theorem Bld.none_ (B : Bld σ τ s ks vs L) (hd : τ d = none) : σ d = none := by
 cases q : σ d with
 | none => rfl
 | some x => have := B.sub _ _ q; exact nn (hd.symm.trans this)
theorem Bld.ext (B : Bld σ τ s ks vs L) (h : Sub τ τ') : Bld σ τ' s ks vs L := ⟨B.hs, B.sub.trans h, h _ _ B.at_, fun q hq => ⟨(B.new q hq).1, (B.new q hq).2.1, h _ _ (B.new q hq).2.2⟩, B.nd, B.len⟩
theorem Bld.ne (B : Bld σ τ s ks vs L) (hd : τ d = none) : σ d = none ∧ d ≠ s ∧ ∀ q ∈ L, q.1 ≠ d :=
 ⟨B.none_ hd, (by rintro rfl; exact sn (B.at_.symm.trans hd)), fun q hq e => by have := (B.new q hq).2.2; rw [e, hd] at this; exact nn this⟩
theorem Bld.add (B : Bld σ τ s ks vs L) (hd : τ d = none) : Bld σ (τ.set d o) s ks vs ((d, o) :: L) := by
 have B' := B.ext (Sub.new (o := o) hd)
 refine xe03 (B.ne hd) fun n1 n2 n3 => ?_
 refine ⟨B.hs, B'.sub, B'.at_, List.forall_mem_cons.mpr ⟨⟨n1, n2, Sto.set_self ..⟩, B'.new⟩, ?_, B.len⟩
 rw [List.map_cons, List.nodup_cons]
 refine ⟨fun hm => ?_, B.nd⟩
 refine xe12 (List.mem_map.mp hm) fun q hq e => ?_
 exact n3 q hq e
theorem Bld.al (B : Bld σ τ s ks vs L) {κ : MV → Sto → Prop} (k : ∀ d τ', Bld σ τ' s ks vs ((d, o) :: L) → κ (.ref d) τ') : ∀ d, τ d = none → κ (.ref d) (τ.set d o) := fun d hd => k d _ (B.add hd)
theorem Bld.other (B : Bld σ τ s ks vs L) (h1 : σ d = none) (h2 : d ≠ s) (h3 : ∀ q ∈ L, q.1 ≠ d) : Bld σ (τ.set d o) s ks vs L :=
 ⟨B.hs, sub_off B.sub h1, keep_ne (Ne.symm h2) B.at_, fun q hq => ⟨(B.new q hq).1, (B.new q hq).2.1, keep_ne (h3 q hq) (B.new q hq).2.2⟩, B.nd, B.len⟩
variable {C : Cx} (hK : PK C) {A : Around} {n : Nat}
include hK
theorem SETA_bld (B : Bld σ τ s ks vs L) {x : Str} {v : MV} (hx : x ∈ scopeA) (hv : v.hok = true) (hl : ks.length ≤ 1000) {Q : Sto → Prop} (h : ∀ τ', Bld σ τ' s (x :: ks) (v :: vs) L → (∀ a o, a ≠ s → τ a = some o → τ' a = some o) → Q τ') : SETA C A (.ref s) x v τ Q :=
 SETA_own B.at_ (Nat.le_trans (Ch.len ks vs) hl) hv (OS_scope hK hx) (h _ ⟨B.hs, sub_off B.sub B.hs, Sto.set_self .., fun q hq => ⟨(B.new q hq).1, (B.new q hq).2.1, keep_ne (B.new q hq).2.1 (B.new q hq).2.2⟩, B.nd, congrArg Nat.succ B.len⟩ fun U U ha e => keep_ne ha e)
theorem GET_bld (B : Bld σ τ s ks vs L) {x : Str} {v : MV} (i : Nat) (hx : x ∈ scopeA) (hi : ks.idxOf x = i) (hv : vs[i]? = some v) {Q : MV → Sto → Prop} (h : Q v τ) : GET C A (.ref s) x τ Q := GET_own B.at_ (Ch.get hi B.len hv) (OA_scope hK hx) h
end
theorem Rep.adds {w : N → Str} {Λ : Sto} {D : List (Addr × Role)} {A : AS} {σ : Sto} : ∀ (l : List (Role × Addr × MO)) {μ : Map}, Rep w Λ D μ A σ → (l.map (·.2.1)).Nodup → (l.map (·.1)).Nodup →
  (∀ q ∈ l, σ q.2.1 = some q.2.2 ∧ Λ q.2.1 = none ∧ Off μ q.2.1 ∧ μ q.1 = none ∧ Lim A q.1 ∧ ∀ μ', MSub μ μ' → Good w μ' A σ q.1 q.2.2) →
  ∃ μF, Rep w Λ D μF A σ ∧ MSub μ μF ∧ (∀ q ∈ l, μF q.1 = some q.2.1) ∧ (∀ a, Off μ a → (∀ q ∈ l, q.2.1 ≠ a) → Off μF a) ∧ (∀ r, (∀ q ∈ l, q.1 ≠ r) → μF r = μ r) := by
 intro l
 induction l with
 | nil => exact fun rep U U U => ⟨_, rep, MSub.refl, List.forall_mem_nil _, fun U h U => h, fun U U => rfl⟩
 | cons p l ih =>
  intro μ rep nd1 nd2 h
  obtain ⟨⟨h1, h2, h3, h4, h5, h6⟩, hr⟩ := List.forall_mem_cons.mp h
  have ms := upd_msub (μ := μ) (r := p.1) (a := p.2.1) h4
  have m1 := List.nodup_cons.mp nd1
  have m2 := List.nodup_cons.mp nd2
  have n1 : ∀ q ∈ l, q.2.1 ≠ p.2.1 := fun q hq e => m1.1 (List.mem_map.mpr ⟨q, hq, e⟩)
  have n2 : ∀ q ∈ l, q.1 ≠ p.1 := fun q hq e => m2.1 (List.mem_map.mpr ⟨q, hq, e⟩)
  obtain ⟨μF, k1, k2, k3, k4, k5⟩ := ih (rep.add h1 h2 h3 h4 h5 fun m => h6 _ m) m1.2 m2.2 fun q hq => by
   refine xe06 (hr q hq) fun g1 g2 g3 g4 g5 g6 => ?_
   exact ⟨g1, g2, g3.upd (n1 q hq), (upd_ne _ _ (n2 q hq)).trans g4, g5, fun μ' m => g6 μ' fun r z e => m _ _ (ms _ _ e)⟩
  refine ⟨μF, k1, fun r z e => k2 _ _ (ms _ _ e), List.forall_mem_cons.mpr ⟨k2 _ _ (upd_self ..), k3⟩, fun b hb hne => ?_, fun r' hr' => ?_⟩
  ·refine xe02 (List.forall_mem_cons.mp hne) fun q1 q2 => ?_
   exact k4 b (hb.upd (Ne.symm q1)) q2
  ·refine xe02 (List.forall_mem_cons.mp hr') fun q1 q2 => ?_
   exact (k5 r' q2).trans (upd_ne _ _ (Ne.symm q1))
end
section
noncomputable def roleT : Role → Nat
 | .sc _ => 0 | .par _ => 1 | .own _ => 2 | .kids _ => 3 | .cats _ => 4 | .caps _ => 5 | .capd _ => 6 | .pps _ => 7 | .bi _ => 8 | .ct _ => 9
noncomputable abbrev scK : List Str := ["param_places", "cell_count", "local_count", "captured", "captures", "catches", "children", "self_binding", "own", "uses_arguments", "var_names", "functions", "is_strict", "body", "params", "sort", "is_program", "parent", "node"]
theorem F2.nil' {α : Type} {R : α → MV → Prop} {l : List α} (e : l = []) : F2 R l [] := e ▸ F2.nil
theorem fa7 {α : Type} {P : α → Prop} {a b c d e f g : α} (h1 : P a) (h2 : P b) (h3 : P c) (h4 : P d) (h5 : P e) (h6 : P f) (h7 : P g) : ∀ q ∈ [a, b, c, d, e, f, g], P q :=
 List.forall_mem_cons.mpr ⟨h1, List.forall_mem_cons.mpr ⟨h2, List.forall_mem_cons.mpr ⟨h3, List.forall_mem_cons.mpr ⟨h4, List.forall_mem_cons.mpr ⟨h5, List.forall_mem_cons.mpr ⟨h6, List.forall_mem_cons.mpr ⟨h7, List.forall_mem_nil _⟩⟩⟩⟩⟩⟩⟩
theorem fa7' {α : Type} {P : α → Prop} {a b c d e f g : α} (h : ∀ q ∈ [a, b, c, d, e, f, g], P q) : P a ∧ P b ∧ P c ∧ P d ∧ P e ∧ P f ∧ P g := by
 refine xe02 (List.forall_mem_cons.mp h) fun h1 h => ?_
 refine xe02 (List.forall_mem_cons.mp h) fun h2 h => ?_
 refine xe02 (List.forall_mem_cons.mp h) fun h3 h => ?_
 refine xe02 (List.forall_mem_cons.mp h) fun h4 h => ?_
 refine xe02 (List.forall_mem_cons.mp h) fun h5 h => ?_
 refine xe02 (List.forall_mem_cons.mp h) fun h6 h => ?_
 exact ⟨h1, h2, h3, h4, h5, h6, h _ (.head _)⟩
theorem rIfeS {E : EF} {X : FX} {ρ : Loc} {σ : Sto} {b o : Expr} {κ : KV} {i : Bool} (P : MV → Sto → Prop) (h1 : i = true → ∀ κ : KV, (∀ v σ', P v σ' → κ X ρ v σ') → RE E b κ X ρ σ) (h2 : i = false → ∀ κ : KV, (∀ v σ', P v σ' → κ X ρ v σ') → RE E o κ X ρ σ) (k : ∀ v σ', P v σ' → κ X ρ v σ') : cIfe E b o κ X ρ i σ := by
 cases i
 ·exact if_f (h2 rfl κ k)
 ·exact if_t (h1 rfl κ k)
section
variable {σ τ τ1 Λ : Sto} {w : N → Str} {D : List (Addr × Role)} {μ μ1 : Map} {S S' : AS} {s a pb pd od ki ca cc cd pq vn fu : Addr} {so isp pv : MV} {ua st : Bool} {ps own : List N} {sf : Option N} {ch : List VE} {ep ep1 : Nat} {es fs1 : Loc} {vs : List MV}
theorem Scope_fin (rep : Rep w Λ D μ S σ) (B : Bld σ τ s scK [.ref pq, .int 0, .int 0, .ref cd, .ref cc, .ref ca, .ref ki, .none, .ref od, .bool ua, .ref vn, .ref fu, .bool st, .ref pb, .ref pd, so, isp, pv, .ref a] [(pq, .list []), (cd, .list []), (cc, .list []), (ca, .list []), (ki, .list []), (od, .dict [] ep), (pd, .list (ps.map fun x => .str (w x)))])
  (hv : VV μ ch pv) (hsc : S'.sc S.n = ⟨ch, st, ua, ps, own, sf, [], [], 0, 0, [], [], []⟩) (hn : S'.n = S.n + 1) (r1 : Rep w Λ D μ1 S' τ1) (r2 : τ1 od = some (.dict es ep1)) (r3 : OwnD w μ1 S.n own es) (r4 : τ1 s = some (.inst 184 fs1)) (r5 : ∀ y : Str, y ≠ "self_binding" → fs1.lookup y = (Ch scK [.ref pq, .int 0, .int 0, .ref cd, .ref cc, .ref ca, .ref ki, .none, .ref od, .bool ua, .ref vn, .ref fu, .bool st, .ref pb, .ref pd, so, isp, pv, .ref a]).lookup y) (r6 : fs1.length ≤ 90)
  (r7 : ∃ v, LK fs1 "self_binding" v ∧ SV μ1 S.n sf v) (fr : Fr2 Λ μ τ μ1 τ1 s od) {Q : MV → Sto → Prop}
  (h : ∀ s μ' σ', μ' (.sc S.n) = some s → (∃ fs, σ' s = some (.inst 184 fs) ∧ LK fs "body" (.ref pb)) → Rep w Λ D μ' S' σ' → Fr Λ μ σ μ' σ' → Q (.ref s) σ') : Q (.ref s) τ1 := by
 generalize hvs : ([.ref pq, .int 0, .int 0, .ref cd, .ref cc, .ref ca, .ref ki, .none, .ref od, .bool ua, .ref vn, .ref fu, .bool st, .ref pb, .ref pd, so, isp, pv, .ref a] : List MV) = vs at B r5
 have ld : ∀ {z : Addr}, σ z = none → Λ z = none := fun e => rep.fresh e
 have nl : ¬ S.n < S.n := Nat.lt_irrefl _
 have mb : ∀ r, (∀ b, r ≠ .bi b) → ¬ Lim S r → μ1 r = none := fun r h1 h2 => (fr.r r h1).trans (by
  cases q : μ r with
  | none => rfl
  | some z => exact absurd (rep.lim _ _ q) h2)
 have lk : ∀ (i : Nat) {x : Str} {v : MV}, x ≠ "self_binding" → scK.idxOf x = i → vs[i]? = some v → LK fs1 x v := fun i U U q e1 e2 => (r5 _ q).trans (Ch.get e1 B.len e2)
 have one : ∀ {r : Role} {z : Addr} {o : MO}, (σ z = none ∧ z ≠ s ∧ τ z = some o) → z ≠ od → (∀ b, r ≠ .bi b) → ¬ Lim S r → Lim S' r → (∀ μ', Good w μ' S' τ1 r o) → τ1 z = some o ∧ Λ z = none ∧ Off μ1 z ∧ μ1 r = none ∧ Lim S' r ∧ ∀ μ', MSub μ1 μ' → Good w μ' S' τ1 r o :=
  fun ⟨q1, q2, q3⟩ q4 q5 q6 q7 g => ⟨(fr.k _ _ (ld q1) (Off.new rep q1) q4 q2 q3).1, ld q1, (fr.k _ _ (ld q1) (Off.new rep q1) q4 q2 q3).2, mb _ q5 q6, q7, fun U U => g _⟩
 have lim : S.n < S'.n := hn ▸ Nat.lt_succ_self _
 obtain ⟨b1, b2, b3, b4, b5, b6, b7⟩ := fa7' B.new
 have nod : od ∉ [pq, cd, cc, ca, ki] ∧ od ≠ pd := by
  obtain ⟨_, q2, q3⟩ := List.nodup_append.mp (show ([pq, cd, cc, ca, ki] ++ [od, pd]).Nodup from B.nd)
  exact ⟨fun q => q3 _ q _ List.mem_cons_self rfl, fun q => (List.nodup_cons.mp q2).1 (q ▸ List.mem_cons_self)⟩
 have no : ∀ z ∈ [pq, cd, cc, ca, ki], z ≠ od := fun z hz e => nod.1 (e ▸ hz)
 have m0 : pq ∈ [pq, cd, cc, ca, ki] := List.mem_cons_self
 obtain ⟨μF, k1, k2, k3, k4, k5⟩ := Rep.adds [(.pps S.n, pq, .list []), (.capd S.n, cd, .list []), (.caps S.n, cc, .list []), (.cats S.n, ca, .list []), (.kids S.n, ki, .list []), (.own S.n, od, .dict es ep1), (.par S.n, pd, .list (ps.map fun x => .str (w x)))] r1 B.nd
  (List.Pairwise.of_map roleT (fun U U h e => h (congrArg roleT e)) (show [7, 6, 5, 4, 3, 2, 1].Nodup by decide))
  (fa7 (one b1 (no _ m0) nofun nl lim fun U => ⟨_, rfl, F2.nil' (congrArg Sc.pps hsc)⟩) (one b2 (no _ (.tail _ (.head _))) nofun nl lim fun U => ⟨_, rfl, F2.nil' (congrArg Sc.capd hsc)⟩) (one b3 (no _ (.tail _ (.tail _ (.head _)))) nofun nl lim fun U => ⟨_, rfl, F2.nil' (congrArg Sc.caps hsc)⟩)
   (one b4 (no _ (.tail _ (.tail _ (.tail _ (.head _))))) nofun nl lim fun U => ⟨_, rfl, F2.nil' (congrArg Sc.cats hsc)⟩) (one b5 (no _ (.tail _ (.tail _ (.tail _ (.tail _ (.head _)))))) nofun nl lim fun U => ⟨_, rfl, F2.nil' (congrArg Sc.kids hsc)⟩)
   ⟨r2, ld b6.1, fr.od, mb _ nofun nl, lim, fun μ' m => ⟨es, ep1, rfl, (congrArg (fun q => OwnD w μ' S.n (Sc.own q) es) hsc).mpr (r3.mono m)⟩⟩ (one b7 (Ne.symm nod.2) nofun nl lim fun U => congrArg (fun l => MO.list (List.map (fun x => .str (w x)) l)) (congrArg Sc.ps hsc).symm))
 refine xe07 (fa7' k3) fun m1 m2 m3 m4 m5 m6 m7 => ?_
 have os : Off μF s := k4 s fr.s (fa7 b1.2.1 b2.2.1 b3.2.1 b4.2.1 b5.2.1 b6.2.1 b7.2.1)
 have ms : μF (.sc S.n) = none := (k5 (.sc S.n) (fa7 nofun nofun nofun nofun nofun nofun nofun)).trans (mb _ nofun nl)
 have rf := k1.add (r := .sc S.n) (a := s) r4 (ld B.hs) os ms lim fun mm => by
  subst hvs
  refine ⟨fs1, rfl, ?_⟩
  rw [hsc]
  refine xe12 r7 fun v7 e7 q7 => ?_
  exact ⟨⟨pv, lk 17 (by decide) (by decide) rfl, ((hv.mono fr.m).mono k2).mono mm⟩, ⟨pd, lk 14 (by decide) (by decide) rfl, mm _ _ m7⟩, ⟨od, lk 8 (by decide) (by decide) rfl, mm _ _ m6⟩, ⟨ki, lk 6 (by decide) (by decide) rfl, mm _ _ m5⟩, ⟨ca, lk 5 (by decide) (by decide) rfl, mm _ _ m4⟩,
   ⟨cc, lk 4 (by decide) (by decide) rfl, mm _ _ m3⟩, ⟨cd, lk 3 (by decide) (by decide) rfl, mm _ _ m2⟩, ⟨pq, lk 0 (by decide) (by decide) rfl, mm _ _ m1⟩, ⟨v7, e7, (q7.mono k2).mono mm⟩,
   lk 12 (by decide) (by decide) rfl, lk 9 (by decide) (by decide) rfl, lk 2 (by decide) (by decide) rfl, lk 1 (by decide) (by decide) rfl, Nat.le_trans r6 (by decide), fun y hy => (r5 y (by revert hy; revert y; decide)).trans (Ch.none _ (by revert hy; revert y; decide))⟩
 refine h s _ _ (upd_self ..) ⟨fs1, r4, by subst hvs; exact lk 13 (by decide) (by decide) rfl⟩ rf ⟨fun r z e => upd_msub ms _ _ (k2 _ _ (fr.m _ _ e)), fun t zs e => fr.t _ _ (B.sub _ _ e), fun z o q1 q2 q3 => ?_⟩
 have nz : ∀ {y}, σ y = none → y ≠ z := fun e q => by rw [q, q3] at e; exact sn e
 refine xe02 (fr.k z o q1 q2 (Ne.symm (nz b6.1)) (Ne.symm (nz B.hs)) (B.sub _ _ q3)) fun z1 z2 => ?_
 exact ⟨z1, (k4 z z2 (fa7 (nz b1.1) (nz b2.1) (nz b3.1) (nz b4.1) (nz b5.1) (nz b6.1) (nz b7.1))).upd (Ne.symm (nz B.hs))⟩
end
structure ScK (w : N → Str) (Λ : Sto) (isP : Bool) (K : Str) (pts : List MV) (ps : List N) (pb : Addr) (st : Bool) : Prop where
 k : (K == "Program") = isP
 p : isP = true → pts[0]? = some (.ref pb) ∧ pts[1]? = some (.bool st) ∧ ps = []
 f : isP = false → ∃ pp, pts[1]? = some (.ref pp) ∧ pts[2]? = some (.ref pb) ∧ pts[3]? = some (.bool st) ∧ Λ pp = some (.list (ps.map fun x => .str (w x)))
structure ScF (w : N → Str) (S : AS) (isP : Bool) (K : Str) (pts : List MV) (ps own : List N) (pb : Addr) (st : Bool) (ds vs ns : List (Option Str)) (ua : Bool) (sf : Option N) : Prop where
 p : isP = true → ua = false ∧ own = [] ∧ sf = none
 f : isP = false → ua = needsArgs (ps.map w) ds vs ns ∧ ∃ x pp kd, K = "Function" ∧ pts = [.str (w x), .ref pp, .ref pb, .bool st, .str kd] ∧ sf = if kd = "expr" ∧ x ∉ own then some x else none
 ho : isP = false → bindNames (ps.map w) ds vs ns = own.map w ∧ own.Nodup ∧ own.length ≤ 900 ∧ (∀ b, S.cap b = false) ∧ (∀ b, S.pl b = none) ∧ ds.length ≤ 300
theorem cIfS {E : EF} {X : FX} {ρ : Loc} {σ : Sto} {b o : List Stmt} {κ : KW} {i : Bool} (h1 : i = true → RX E o κ X ρ σ) (h2 : i = false → RX E b κ X ρ σ) : cIf E b o κ X ρ (!i) σ := by
 cases i
 ·exact if_t (h2 rfl)
 ·exact if_f (h1 rfl)
theorem cAndS {E : EF} {X : FX} {ρ : Loc} {σ : Sto} {y : Expr} {κ : KV} {i u : Bool} (h1 : i = true → u = false) (h2 : i = false → (κ X ρ (.bool u) σ → RE E y κ X ρ σ)) (h : κ X ρ (.bool u) σ) : cAnd2 E y (.bool (!i)) κ X ρ (!i) σ := by
 cases i
 ·exact if_t (h2 rfl h)
 ·have := h1 rfl
  subst this
  exact if_f h
section
variable {C : Cx} (hK : PK C) {A : Around} {n : Nat} {σ Λ : Sto} {w : N → Str} (hw : ∀ x y, w x = w y → x = y) {D : List (Addr × Role)} {μ : Map} {S : AS}
include hK hw
theorem Scope_new (b : Bud A (n + 9)) (rep : Rep w Λ D μ S σ) {a p pb : Addr} {isP st ua : Bool} {K : Str} {pts : List MV} {ps own : List N} {sf : Option N} {ch : List VE} {pv : MV} {ds vs ns : List (Option Str)} (nd : Nd Λ a K p pts) (bd : Body Λ pb ds vs ns) (c : ScK w Λ isP K pts ps pb st) (cf : ScF w S isP K pts ps own pb st ds vs ns ua sf)
  (hv : VV μ ch pv) (hpv : pv.hok = true) (hps : ps.length ≤ 10) (hvl : vs.length ≤ 300) {Q : MV → Sto → Prop}
  (h : ∀ s μ' σ', μ' (.sc S.n) = some s → (∃ fs, σ' s = some (.inst 184 fs) ∧ LK fs "body" (.ref pb)) → Rep w Λ D μ' (newSc S ch st ua ps own sf) σ' → Fr Λ μ σ μ' σ' → Q (.ref s) σ') : CALL C A (.ref 184) [.ref a, pv] σ Q := by
 refine CALL_make (hK ▸ mkS _) (hK ▸ inS _) (hK ▸ tyS _) b fun s A' hs b' => ?_
 refine runFnQ hK (f := 130) ["self", "node", "parent"] (fun U => rfl) (fun U => rfl) rfl rfl (ar3 fun U U U => rfl) rfl rfl b' fun FF U eQ hK b' => ?_
 have B : Bld σ (σ.set s (.inst 184 [])) s [] [] [] := ⟨hs, Sub.new hs, Sto.set_self .., List.forall_mem_nil _, List.nodup_nil, rfl⟩
 generalize σ.set s (.inst 184 []) = τ at B ⊢
 have R : ∀ {τ ks vs L}, Bld σ τ s ks vs L → On Λ τ := fun B => (rep.sub B.sub).on
 walk_at "S"
 refine SETA_bld hK B (by decide) rfl (by decide) fun τ B U => ?_
 walk_at "S"
 refine SETA_bld hK B (by decide) hpv (by decide) fun τ B U => ?_
 walk_at "S"
 refine GET_kind hK nd (R B) ?_
 walk_at "S"
 refine SETA_bld hK B (by decide) rfl (by decide) fun τ B U => ?_
 rw [c.k] at B
 walk_at "S"
 refine GET_bld hK B 0 (by decide) (by decide) rfl ?_
 walk_at "S"
 refine rIfeS (fun v σ' => σ' = τ ∧ v.hok = true) (fun U κ k => rStr (k _ _ ⟨rfl, rfl⟩)) (fun U κ k => rStr (k _ _ ⟨rfl, rfl⟩)) fun so τ' ⟨e, hso⟩ => ?_
 rw [e]
 walk_at "S"
 refine SETA_bld hK B (by decide) hso (by decide) fun τ B U => ?_
 walk_at "S"
 refine GET_bld hK B 1 (by decide) (by decide) rfl ?_
 walk_at "S"
 refine rIfeS (fun v σ' => ∃ pd, v = .ref pd ∧ Bld σ σ' s ["sort", "is_program", "parent", "node"] [so, .bool isP, pv, .ref a] [(pd, .list (ps.map fun x => .str (w x)))]) (fun q κ k => ?_) (fun q κ k => ?_) fun pd' τ' ⟨pd, e, B⟩ => ?_
 ·refine xe03 (c.p q) fun U U e => ?_
  subst e
  walk_at "S"
  exact ⟨Nat.zero_le _, B.al fun d τ B => k _ _ ⟨d, rfl, B⟩⟩
 ·refine xe14 (c.f q) fun pp e1 e2 e3 e4 => ?_
  walk_at "S"
  refine GET_parts hK nd (R B) ?_
  walk_at "S"
  refine SUB_list ((R B).list nd.ps) (by decide) (by decide) e1 ?_
  walk_at "S"
  exact CALL_list_list ((R B).list e4) (by rw [List.length_map]; exact Nat.le_trans hps (by decide)) (B.al fun d τ B => k _ _ ⟨d, rfl, B⟩)
 rw [e]
 walk_at "S"
 refine SETA_bld hK B (by decide) rfl (by decide) fun τ B U => ?_
 walk_at "S"
 refine GET_bld hK B 2 (by decide) (by decide) rfl ?_
 walk_at "S"
 refine rIfeS (fun v σ' => v = .ref pb ∧ σ' = τ) (fun q κ k => ?_) (fun q κ k => ?_) fun _ _ ⟨e, e'⟩ => ?_
 ·walk_at "S"
  refine GET_parts hK nd (R B) ?_
  walk_at "S"
  exact SUB_list ((R B).list nd.ps) (by decide) (by decide) (c.p q).1 (k _ _ ⟨rfl, rfl⟩)
 ·refine xe14 (c.f q) fun pp e1 e2 e3 e4 => ?_
  walk_at "S"
  refine GET_parts hK nd (R B) ?_
  walk_at "S"
  exact SUB_list ((R B).list nd.ps) (by decide) (by decide) e2 (k _ _ ⟨rfl, rfl⟩)
 rw [e, e']
 walk_at "S"
 refine SETA_bld hK B (by decide) rfl (by decide) fun τ B U => ?_
 walk_at "S"
 refine GET_bld hK B 3 (by decide) (by decide) rfl ?_
 walk_at "S"
 refine rIfeS (fun v σ' => v = .bool st ∧ σ' = τ) (fun q κ k => ?_) (fun q κ k => ?_) fun _ _ ⟨e, e'⟩ => ?_
 ·walk_at "S"
  refine GET_parts hK nd (R B) ?_
  walk_at "S"
  exact SUB_list ((R B).list nd.ps) (by decide) (by decide) (c.p q).2.1 (k _ _ ⟨rfl, rfl⟩)
 ·refine xe14 (c.f q) fun pp e1 e2 e3 e4 => ?_
  walk_at "S"
  refine GET_parts hK nd (R B) ?_
  walk_at "S"
  exact SUB_list ((R B).list nd.ps) (by decide) (by decide) e3 (k _ _ ⟨rfl, rfl⟩)
 rw [e, e']
 walk_at "S"
 refine SETA_bld hK B (by decide) rfl (by decide) fun τ B U => ?_
 walk_at "S"
 refine GET_bld hK B 1 (by decide) (by decide) rfl ?_
 walk_at "S"
 refine xe55 bd.ex fun xs0 U U U U x1 x2 x3 x4 U => ?_
 refine (last_decls_C hK (n := n + 5) (b'.mono (by lia)) (R B) x1 x2 x3 x4 fun fu zs hfu hzl hzs => ?_).call
 have hfs := (B.ne hfu).2.1
 have efu : (τ.set fu (.list zs)) fu = some (.list zs) := Sto.set_self ..
 have B := B.ext (Sub.new (o := .list zs) hfu)
 generalize τ.set fu (.list zs) = τ at efu B ⊢
 walk_at "S"
 refine SETA_bld hK B (by decide) rfl (by decide) fun τ B kp => ?_
 have efu := kp _ _ hfs efu
 walk_at "S"
 refine ⟨Nat.zero_le _, fun vn hvn => ?_⟩
 refine xe03 (B.ne hvn) fun v1 v2 v3 => ?_
 have efu := keep_new (x := .list []) hvn efu
 have evn : (τ.set vn (.list [])) vn = some (.list []) := Sto.set_self ..
 have B := B.ext (Sub.new (o := .list []) hvn)
 generalize τ.set vn (.list []) = τ at efu evn B ⊢
 walk_at "S"
 refine SETA_bld hK B (by decide) rfl (by decide) fun τ B kp => ?_
 have efu := kp _ _ hfs efu
 have evn := kp _ _ v2 evn
 walk_at "S"
 walk_at "a"
 walk_at "S"
 refine GET_bld hK B 1 (by decide) (by decide) rfl ?_
 refine ITR_list efu ⟨rfl, fun acc L2 hacc => ?_⟩
 have eb : ∀ ys, (τ.set acc (.list ys)) fu = some (.list zs) := fun ys => keep_new hacc efu
 have onA : ∀ ys, On Λ (τ.set acc (.list ys)) := fun ys => (R B).new hacc
 refine any_loop (P := fun U => True) (J := fun i (ys : List Str) => ys.length ≤ i) (xs := zs) (R := fun i' ρ (ys : List Str) => RC _ _ _ _ _ _ _ _ acc (.list fu i') (FF.at_ _) ρ (τ.set acc (.list (ys.map .str))))
  (fun i' v2 ρ2 ys U j' hi' k' => ?_) _ 0 _ [] (Nat.zero_add _) trivial (Nat.le_refl _) ?_
 ·have hlt' := (Gs hi').1
  refine xe62 (hzs v2 (List.mem_of_getElem? hi')) fun x2 a2 q2 u2 w2 z2 eq6 nd2 => ?_; obtain rfl := eq6
  refine rCL b'.h (eb _) (fun v' hv' => ?_) (fun hn => by exact sn (hi'.symm.trans hn))
  obtain rfl : v' = .ref a2 := by obtain rfl := si (hi'.symm.trans hv'); rfl
  walk_at "a"
  walk_at "S"
  refine GET_parts hK nd2 (onA _) ?_
  walk_at "S"
  refine SUB_list ((onA _).list nd2.ps) (by decide) (by decide) rfl ?_
  refine ⟨ys.map .str, Sto.set_self .., by rw [List.length_map]; lia, ?_⟩
  rw [set_set, show ys.map MV.str ++ [.str x2] = (ys ++ [x2]).map .str by simp]
  exact k' _ _ trivial (by rw [List.length_append, List.length_singleton]; lia)
 intro ρ2 ys _ j'
 refine rCL b'.h (eb _) (fun v' hv' => ?_) (fun hn => ⟨(List.forall_mem_nil _), ?_⟩)
 ·exact nn ((List.getElem?_eq_none (Nat.le_refl _)).symm.trans hv')
 have B := B.ext (Sub.new (o := .list (ys.map .str)) hacc)
 have evn := keep_new (x := .list (ys.map .str)) hacc evn
 have eacc : (τ.set acc (.list (ys.map .str))) acc = some (.list (ys.map .str)) := Sto.set_self ..
 generalize τ.set acc (.list (ys.map .str)) = τ at B evn eacc ⊢
 walk_at "S"
 refine GET_bld hK B 3 (by decide) (by decide) rfl ?_
 walk_at "S"
 refine (vars_C hK (n := n + 3) (b'.mono (by lia)) (R B) bd fun vd hvd => ?_).call
 have hvl2 : (varNames vs).length ≤ 300 := Nat.le_trans (addOpts_len vs []) (by rw [List.length_nil]; lia)
 refine BIN_add_list (keep_new hvd eacc) (Sto.set_self ..) (by rw [List.length_map, List.length_map]; lia) fun cl hcl => ?_
 have hcv : cl ≠ vn := by rintro rfl; exact sn ((keep_new hvd evn).symm.trans hcl)
 have B := (B.ext (Sub.new (o := .list ((varNames vs).map .str)) hvd)).ext (Sub.new (o := .list (ys.map .str ++ (varNames vs).map .str)) hcl)
 have evn := keep_new (x := .list (ys.map .str ++ (varNames vs).map .str)) hcl (keep_new (x := .list ((varNames vs).map .str)) hvd evn)
 have ecl : ((τ.set vd (.list ((varNames vs).map .str))).set cl (.list (ys.map .str ++ (varNames vs).map .str))) cl = some (.list ((ys ++ varNames vs).map .str)) := by rw [List.map_append]; exact Sto.set_self ..
 generalize (τ.set vd (.list ((varNames vs).map .str))).set cl (.list (ys.map .str ++ (varNames vs).map .str)) = τ at B evn ecl ⊢
 have hnl : (ys ++ varNames vs).length ≤ 900 := by rw [List.length_append]; lia
 generalize ys ++ varNames vs = nl at ecl hnl
 walk_at "S"
 refine ITR_list ecl ?_
 refine up_fold (β := List Str) (ys := nl) (f := addOnce) (P := fun ρ => LK ρ "self" (.ref s)) (R := fun i ρ (X : List Str) => ∀ τ', Bld σ τ' s _ _ _ → τ' vn = some (.list (X.map .str)) → τ' cl = some (.list (nl.map .str)) → X.length ≤ i → RF _ _ _ _ _ (.list cl i) FF ρ τ')
  ?_ nl.length 0 _ [] (Nat.zero_add _) (by rfl) ?_ τ B evn ecl (Nat.le_refl _)
 ·intro i y ρ X l1 hi k0 τ1 B evn ecl hX
  have hx : (nl.map MV.str)[i]? = some (.str y) := by rw [List.getElem?_map, hi]; rfl
  have hlt := (Gs hi).1
  refine rFL b'.h ecl (fun v hv => ?_) (fun hn => by exact sn (hx.symm.trans hn))
  obtain rfl := si (hx.symm.trans hv)
  walk_at "a"
  walk_at "S"
  refine GET_bld hK B 0 (by decide) (by decide) rfl ?_
  walk_at "S"
  refine (add_once_C hK (n := n) (b'.mono (by lia)) evn (by lia) ?_).call
  walk_at "S"
  refine k0 _ (l1.set (by walk_at "f")) _ ?_ ?_ ?_ (Nat.le_trans (addOnce_len ..) (by lia))
  ·split
   ·exact B
   ·exact B.other v1 v2 v3
  ·unfold addOnce
   split
   ·exact evn
   ·exact Sto.set_self ..
  ·split
   ·exact ecl
   ·exact keep_ne hcv ecl
 clear B evn ecl
 intro ρ l1 τ B evn ecl hX
 refine rFL b'.h ecl (fun v hv => by have := (Gs hv).1; rw [List.length_map] at this; exact absurd this (Nat.lt_irrefl _)) (fun U => ?_)
 walk_at "S"
 refine GET_bld hK B 6 (by decide) (by decide) rfl ?_
 walk_at "S"
 refine cAndS (fun q => (cf.p q).1) (fun q k => ?_) ?_
 ·walk_at "S"
  refine GET_bld hK B 4 (by decide) (by decide) rfl ?_
  walk_at "S"
  refine GET_bld hK B 3 (by decide) (by decide) rfl ?_
  walk_at "S"
  refine (needs_C hK (n := n + 2) (b'.mono (by lia)) (R B) bd (pp := pd) (ps := ps.map w) (by rw [List.map_map]; exact (B.new _ (List.mem_cons_self ..)).2.2) ?_).call
  exact (cf.f q).1 ▸ k
 walk_at "S"
 refine SETA_bld hK B (by decide) rfl (by decide) fun τ B U => ?_
 walk_at "S"
 refine EV_dict0 fun od ep => B.al (fun od τ B => ?_) od
 walk_at "S"
 refine SETA_bld hK B (by decide) rfl (by decide) fun τ B U => ?_
 walk_at "S"
 refine SETA_bld hK B (by decide) rfl (by decide) fun τ B U => ?_
 walk_at "S"
 refine ⟨Nat.zero_le _, B.al fun ki τ B => ?_⟩
 walk_at "S"
 refine SETA_bld hK B (by decide) rfl (by decide) fun τ B U => ?_
 walk_at "S"
 refine ⟨Nat.zero_le _, B.al fun ca τ B => ?_⟩
 walk_at "S"
 refine SETA_bld hK B (by decide) rfl (by decide) fun τ B U => ?_
 walk_at "S"
 refine ⟨Nat.zero_le _, B.al fun cc τ B => ?_⟩
 walk_at "S"
 refine SETA_bld hK B (by decide) rfl (by decide) fun τ B U => ?_
 walk_at "S"
 refine ⟨Nat.zero_le _, B.al fun cd τ B => ?_⟩
 walk_at "S"
 refine SETA_bld hK B (by decide) rfl (by decide) fun τ B U => ?_
 walk_at "S"
 refine SETA_bld hK B (by decide) rfl (by decide) fun τ B U => ?_
 walk_at "S"
 refine SETA_bld hK B (by decide) rfl (by decide) fun τ B U => ?_
 walk_at "S"
 refine ⟨Nat.zero_le _, B.al fun pq τ B => ?_⟩
 walk_at "S"
 refine SETA_bld hK B (by decide) rfl (by decide) fun τ B U => ?_
 walk_at "S"
 refine GET_bld hK B 16 (by decide) (by decide) rfl ?_
 walk_at "S"
 have rep1 : Rep w Λ D μ (newSc S ch st ua ps own sf) τ := (rep.sub B.sub).abs (fun r o l g => g.newSc l) (Nat.le_succ _) (Nat.le_refl _)
 have hO : ∀ {z : Addr}, σ z = none → Off μ z := fun e => Off.new rep e
 have o1 := B.new (od, .dict [] ep) (.tail _ (.tail _ (.tail _ (.tail _ (.tail _ (.head _))))))
 refine cIfS (fun q => ?_) (fun q => ?_)
 ·walk_at "S"
  refine xe03 (cf.p q) fun U ew es => ?_
  exact eQ _ _ ⟨rfl, Scope_fin rep B hv (upd_self ..) rfl rep1 o1.2.2 (ew ▸ ⟨rfl, List.forall_mem_nil _⟩) B.at_ (fun U U => rfl) (Nat.le_trans (Ch.len _ _) (by decide)) ⟨_, Ch.get (i := 7) (by decide) rfl rfl, es ▸ rfl⟩ ⟨MSub.refl, fun U U e => e, fun U U U h U U e => ⟨e, h⟩, hO hs, hO o1.1, fun U U => rfl⟩ h⟩
 obtain ⟨_, x, pp, kd, e1, e2, e3⟩ := cf.f q
 refine xe06 (cf.ho q) fun ho hnd hol hcap hpl hdl => ?_
 walk_at "S"
 refine METH_own B.at_ (Ch.none _ (by decide)) (OM_scope hK (f := 137) (by decide)) ?_
 refine ⟨by rw [hK]; rfl, ?_⟩
 have nn : ∀ r, ¬ Lim S r → μ r = none := fun r hr => by
  cases q : μ r with
  | none => rfl
  | some z => exact absurd (rep.lim _ _ q) hr
 rw [e1, e2] at nd
 refine (declare_C hK hw (n := n) (b'.mono (by lia)) rep1 (k := S.n) (Nat.lt_succ_self _) B.at_ (Ch.get (i := 14) (by decide) rfl rfl) (Ch.get (i := 13) (by decide) rfl rfl) (Ch.get (i := 18) (by decide) rfl rfl) (Ch.get (i := 8) (by decide) rfl rfl) (Ch.get (i := 7) (by decide) rfl rfl) (Nat.le_trans (Ch.len _ _) (by decide)) o1.2.2
  (B.new (pd, .list (ps.map fun x => .str (w x))) (.tail _ (.tail _ (.tail _ (.tail _ (.tail _ (.tail _ (.head _)))))))).2.2 (hO hs) (hO o1.1) (rep.fresh hs) (rep.fresh o1.1) nd bd hps hvl hdl ho hnd ((congrArg Sc.sf (upd_self ..)).trans e3) hol
  (fun y => nn _ (Nat.lt_irrefl _)) (nn _ (Nat.lt_irrefl _)) hcap hpl fun μ1 τ1 es ep1 fs1 r1 r2 r3 r4 r5 r6 r7 fr => ?_).call
 walk_at "S"
 exact eQ _ _ ⟨rfl, Scope_fin rep B hv (upd_self ..) rfl r1 r2 r3 r4 r5 (Nat.le_trans r6 (Nat.le_trans (Nat.succ_le_succ (Ch.len _ _)) (by decide))) ((congrArg (fun q => ∃ v, LK fs1 "self_binding" v ∧ SV μ1 S.n (Sc.sf q) v) (upd_self ..)).mp r7) fr h⟩
end
end
section
section
variable {C : Cx} (hK : PK C) {A : Around} {n : Nat} {σ Λ : Sto} {w : N → Str} (hw : ∀ x y, w x = w y → x = y) {D : List (Addr × Role)} {μ : Map} {S : AS}
include hK hw
theorem Scope_newF (b : Bud A (n + 9)) (rep : Rep w Λ D μ S σ) {a p pp pb : Addr} {kd : Str} {x : N} {st : Bool} {ps own : List N} {ch : List VE} {pv : MV} {ds vs ns : List (Option Str)} (nd : Nd Λ a "Function" p [.str (w x), .ref pp, .ref pb, .bool st, .str kd]) (epp : Λ pp = some (.list (ps.map fun x => .str (w x)))) (bd : Body Λ pb ds vs ns)
  (hv : VV μ ch pv) (hpv : pv.hok = true) (hps : ps.length ≤ 10) (hvl : vs.length ≤ 300) (hdl : ds.length ≤ 300) (ho : bindNames (ps.map w) ds vs ns = own.map w) (hnd : own.Nodup) (hol : own.length ≤ 900)
  (hcap : ∀ b, S.cap b = false) (hpl : ∀ b, S.pl b = none) {Q : MV → Sto → Prop}
  (h : ∀ s μ' σ', μ' (.sc S.n) = some s → (∃ fs, σ' s = some (.inst 184 fs) ∧ LK fs "body" (.ref pb)) → Rep w Λ D μ' (newSc S ch st (needsArgs (ps.map w) ds vs ns) ps own (if kd = "expr" ∧ x ∉ own then some x else none)) σ' → Fr Λ μ σ μ' σ' → Q (.ref s) σ') : CALL C A (.ref 184) [.ref a, pv] σ Q :=
 Scope_new hK hw b rep nd bd ⟨rfl, nofun, fun U => ⟨pp, rfl, rfl, rfl, epp⟩⟩ ⟨nofun, fun U => ⟨rfl, x, pp, kd, rfl, rfl, rfl⟩, fun U => ⟨ho, hnd, hol, hcap, hpl, hdl⟩⟩ hv hpv hps hvl h
theorem Scope_newP (b : Bud A (n + 9)) (rep : Rep w Λ D μ S σ) {a p pb : Addr} {st : Bool} {ds vs ns : List (Option Str)} (nd : Nd Λ a "Program" p [.ref pb, .bool st]) (bd : Body Λ pb ds vs ns)
  (hvl : vs.length ≤ 300) {Q : MV → Sto → Prop}
  (h : ∀ s μ' σ', μ' (.sc S.n) = some s → (∃ fs, σ' s = some (.inst 184 fs) ∧ LK fs "body" (.ref pb)) → Rep w Λ D μ' (newSc S [] st false [] [] none) σ' → Fr Λ μ σ μ' σ' → Q (.ref s) σ') : CALL C A (.ref 184) [.ref a, .none] σ Q :=
 Scope_new hK hw b rep nd bd ⟨rfl, fun U => ⟨rfl, rfl, rfl⟩, nofun⟩ ⟨fun U => ⟨rfl, rfl, rfl⟩, nofun, nofun⟩ (ch := []) (pv := .none) rfl rfl (Nat.zero_le _) hvl h
end
end
section
inductive T where
 | nil
 | use (x : N) (r : T)
 | var (x y : N) (r : T)
 | tr (x : N) (i o r : T)
 | fn (d : Bool) (x : N) (ps : List N) (st : Bool) (b r : T)
noncomputable def nf : T → Nat
 | .nil => 0
 | .use _ r => nf r
 | .var _ _ r => nf r
 | .tr _ i o r => nf i + nf o + nf r
 | .fn _ _ _ _ b r => 1 + nf b + nf r
theorem nfE : (nf .nil = (0)) ∧ (∀ u1 r, nf (.use u1 r) = (nf r)) ∧ (∀ u1 u2 r, nf (.var u1 u2 r) = (nf r)) ∧ (∀ u1 i o r, nf (.tr u1 i o r) = (nf i + nf o + nf r)) ∧ (∀ u1 u2 u3 u4 b r, nf (.fn u1 u2 u3 u4 b r) = (1 + nf b + nf r)) := ⟨rfl, fun U U => rfl, fun U U U => rfl, fun U U U U => rfl, fun U U U U U U => rfl⟩
noncomputable def nt : T → Nat
 | .nil => 0
 | .use _ r => nt r
 | .var _ _ r => nt r
 | .tr _ i o r => 1 + nt i + nt o + nt r
 | .fn _ _ _ _ b r => nt b + nt r
theorem ntE : (nt .nil = (0)) ∧ (∀ u1 r, nt (.use u1 r) = (nt r)) ∧ (∀ u1 u2 r, nt (.var u1 u2 r) = (nt r)) ∧ (∀ u1 i o r, nt (.tr u1 i o r) = (1 + nt i + nt o + nt r)) ∧ (∀ u1 u2 u3 u4 b r, nt (.fn u1 u2 u3 u4 b r) = (nt b + nt r)) := ⟨rfl, fun U U => rfl, fun U U U => rfl, fun U U U U => rfl, fun U U U U U U => rfl⟩
noncomputable def sz : T → Nat
 | .nil => 0
 | .use _ r => 2 + sz r
 | .var _ _ r => 2 + sz r
 | .tr _ i o r => 1 + sz i + sz o + sz r
 | .fn _ _ _ _ b r => 2 + sz b + sz r
theorem szE : (sz .nil = (0)) ∧ (∀ u1 r, sz (.use u1 r) = (2 + sz r)) ∧ (∀ u1 u2 r, sz (.var u1 u2 r) = (2 + sz r)) ∧ (∀ u1 i o r, sz (.tr u1 i o r) = (1 + sz i + sz o + sz r)) ∧ (∀ u1 u2 u3 u4 b r, sz (.fn u1 u2 u3 u4 b r) = (2 + sz b + sz r)) := ⟨rfl, fun U U => rfl, fun U U U => rfl, fun U U U U => rfl, fun U U U U U U => rfl⟩
noncomputable def osz : T → Nat
 | .nil => 0
 | .use _ r => 1 + osz r + 1
 | .var _ _ r => 1 + osz r + 1
 | .tr _ i o r => osz i + osz o + osz r + 1
 | .fn d _ _ _ _ r => (if d then 0 else 1) + osz r + 1
theorem oszE : (osz .nil = (0)) ∧ (∀ u1 r, osz (.use u1 r) = (1 + osz r + 1)) ∧ (∀ u1 u2 r, osz (.var u1 u2 r) = (1 + osz r + 1)) ∧ (∀ u1 i o r, osz (.tr u1 i o r) = (osz i + osz o + osz r + 1)) ∧ (∀ d u1 u2 u3 u4 r, osz (.fn d u1 u2 u3 u4 r) = ((if d then 0 else 1) + osz r + 1)) := ⟨rfl, fun U U => rfl, fun U U U => rfl, fun U U U U => rfl, fun U U U U U U => rfl⟩
noncomputable def topN : T → Nat
 | .nil => 0
 | .use _ r => 1 + topN r
 | .var _ _ r => 1 + topN r
 | .tr _ _ _ r => 1 + topN r
 | .fn _ _ _ _ _ r => 1 + topN r
theorem topNE : (topN .nil = (0)) ∧ (∀ u1 r, topN (.use u1 r) = (1 + topN r)) ∧ (∀ u1 u2 r, topN (.var u1 u2 r) = (1 + topN r)) ∧ (∀ u1 u2 u3 r, topN (.tr u1 u2 u3 r) = (1 + topN r)) ∧ (∀ u1 u2 u3 u4 u5 r, topN (.fn u1 u2 u3 u4 u5 r) = (1 + topN r)) := ⟨rfl, fun U U => rfl, fun U U U => rfl, fun U U U U => rfl, fun U U U U U U => rfl⟩
noncomputable def dsN : T → List (Option N)
 | .nil => []
 | .use _ r => none :: dsN r
 | .var _ _ r => none :: dsN r
 | .tr _ _ _ r => none :: dsN r
 | .fn d x _ _ _ r => (if d then some x else none) :: dsN r
theorem dsNE : (dsN .nil = ([])) ∧ (∀ u1 r, dsN (.use u1 r) = (none :: dsN r)) ∧ (∀ u1 u2 r, dsN (.var u1 u2 r) = (none :: dsN r)) ∧ (∀ u1 u2 u3 r, dsN (.tr u1 u2 u3 r) = (none :: dsN r)) ∧ (∀ d x u1 u2 u3 r, dsN (.fn d x u1 u2 u3 r) = ((if d then some x else none) :: dsN r)) := ⟨rfl, fun U U => rfl, fun U U U => rfl, fun U U U U => rfl, fun U U U U U U => rfl⟩
noncomputable def vsN : T → List (Option N)
 | .nil => []
 | .use _ r => none :: none :: vsN r
 | .var x _ r => some x :: none :: vsN r
 | .tr _ i o r => none :: (vsN i ++ vsN o) ++ vsN r
 | .fn d _ _ _ _ r => (if d then [none] else [none, none]) ++ vsN r
theorem vsNE : (vsN .nil = ([])) ∧ (∀ u1 r, vsN (.use u1 r) = (none :: none :: vsN r)) ∧ (∀ x u1 r, vsN (.var x u1 r) = (some x :: none :: vsN r)) ∧ (∀ u1 i o r, vsN (.tr u1 i o r) = (none :: (vsN i ++ vsN o) ++ vsN r)) ∧ (∀ d u1 u2 u3 u4 r, vsN (.fn d u1 u2 u3 u4 r) = ((if d then [none] else [none, none]) ++ vsN r)) := ⟨rfl, fun U U => rfl, fun U U U => rfl, fun U U U U => rfl, fun U U U U U U => rfl⟩
noncomputable def nsN : T → List (Option N)
 | .nil => []
 | .use x r => none :: some x :: nsN r
 | .var _ y r => none :: some y :: nsN r
 | .tr _ i o r => none :: (nsN i ++ nsN o) ++ nsN r
 | .fn d _ _ _ _ r => (if d then [none] else [none, none]) ++ nsN r
theorem nsNE : (nsN .nil = ([])) ∧ (∀ x r, nsN (.use x r) = (none :: some x :: nsN r)) ∧ (∀ u1 y r, nsN (.var u1 y r) = (none :: some y :: nsN r)) ∧ (∀ u1 i o r, nsN (.tr u1 i o r) = (none :: (nsN i ++ nsN o) ++ nsN r)) ∧ (∀ d u1 u2 u3 u4 r, nsN (.fn d u1 u2 u3 u4 r) = ((if d then [none] else [none, none]) ++ nsN r)) := ⟨rfl, fun U U => rfl, fun U U U => rfl, fun U U U U => rfl, fun U U U U U U => rfl⟩
inductive Ast (Λ : Sto) (w : N → Str) (fa ta : List Addr) : T → Nat → Nat → List MV → Prop where
 | nil {k c : Nat} : Ast Λ w fa ta .nil k c []
 | use {x : N} {r : T} {k c : Nat} {xs : List MV} {e p l q : Addr} (h1 : Nd Λ e "Expr" p [.ref l]) (h2 : Nd Λ l "Name" q [.str (w x)]) (hr : Ast Λ w fa ta r k c xs) : Ast Λ w fa ta (.use x r) k c (.ref e :: xs)
 | var {x y : N} {r : T} {k c : Nat} {xs : List MV} {v p q t l ql : Addr} (h1 : Nd Λ v "Var" p [.ref q]) (h2 : Λ q = some (.list [.ref t])) (h3 : Λ t = some (.tuple [.str (w x), .ref l])) (h4 : Nd Λ l "Name" ql [.str (w y)]) (hr : Ast Λ w fa ta r k c xs) :
   Ast Λ w fa ta (.var x y r) k c (.ref v :: xs)
 | tr {x : N} {i o r : T} {k c : Nat} {a p pi po : Addr} {xi xo xs : List MV} (ha : ta[c]? = some a) (h1 : Nd Λ a "Try" p [.ref pi, .str (w x), .ref po, .none]) (h2 : Λ pi = some (.list xi)) (h3 : Λ po = some (.list xo))
   (hi : Ast Λ w fa ta i k (c + 1) xi) (ho : Ast Λ w fa ta o (k + nf i) (c + 1 + nt i) xo) (hr : Ast Λ w fa ta r (k + nf i + nf o) (c + 1 + nt i + nt o) xs) : Ast Λ w fa ta (.tr x i o r) k c (.ref a :: xs)
 | decl {x : N} {ps : List N} {st : Bool} {b r : T} {k c : Nat} {a p pp pb : Addr} {xb xs : List MV} (ha : fa[k]? = some a) (h1 : Nd Λ a "Function" p [.str (w x), .ref pp, .ref pb, .bool st, .str "decl"]) (h2 : Λ pp = some (.list (ps.map fun x => .str (w x)))) (h3 : Λ pb = some (.list xb))
   (hb : Ast Λ w fa ta b (k + 1) c xb) (hr : Ast Λ w fa ta r (k + 1 + nf b) (c + nt b) xs) : Ast Λ w fa ta (.fn true x ps st b r) k c (.ref a :: xs)
 | expr {x : N} {ps : List N} {st : Bool} {b r : T} {k c : Nat} {e pe a p pp pb : Addr} {xb xs : List MV} (h0 : Nd Λ e "Expr" pe [.ref a]) (ha : fa[k]? = some a) (h1 : Nd Λ a "Function" p [.str (w x), .ref pp, .ref pb, .bool st, .str "expr"]) (h2 : Λ pp = some (.list (ps.map fun x => .str (w x)))) (h3 : Λ pb = some (.list xb))
   (hb : Ast Λ w fa ta b (k + 1) c xb) (hr : Ast Λ w fa ta r (k + 1 + nf b) (c + nt b) xs) : Ast Λ w fa ta (.fn false x ps st b r) k c (.ref e :: xs)
section
variable {Λ : Sto} {w : N → Str} {fa ta : List Addr}
theorem Nd.fk {a p : Addr} {kind : Str} {ps : List MV} (h : Nd Λ a kind p ps) : FK Λ (.ref a) [] [.ref a] := by
 refine xe12 h.at_ fun fs e U => ?_
 exact .node e
theorem Flats.one {a : Addr} {ys M : List MV} {m : Nat} (e : FK Λ (.ref a) [] [.ref a]) (r : Flats Λ ys M m) : Flats Λ (.ref a :: ys) (.ref a :: M) (m + 1) := by
 have := Flats.at_ e .nil r
 rwa [Nat.zero_add] at this
theorem Flats.skip {v : MV} {ys M : List MV} {m : Nat} (e : FK Λ v [] []) (r : Flats Λ ys M m) : Flats Λ (v :: ys) M (m + 1) := by
 have := Flats.at_ e .nil r
 rwa [Nat.zero_add] at this
theorem Flats.str (x : Str) {ys M : List MV} {m : Nat} : Flats Λ ys M m → Flats Λ (.str x :: ys) M (m + 1) := .skip (.oth (.inr (.inr ⟨x, rfl⟩)))
theorem Flats.list {a : Addr} {xs ys L M : List MV} {n m : Nat} (e : Λ a = some (.list xs)) (q : Flats Λ xs L n) (r : Flats Λ ys M m) : Flats Λ (.ref a :: ys) (L ++ M) (n + m + 1) := .at_ (.list e) q r
theorem Flats.sing {a : Addr} {xs L : List MV} {n : Nat} (e : FK Λ (.ref a) xs []) (q : Flats Λ xs L n) : Flats Λ [.ref a] L (n + 1) := by
 have := Flats.at_ e q .nil
 rwa [List.nil_append, List.append_nil] at this
theorem Ast.flats {t : T} {k c : Nat} {xs : List MV} (h : Ast Λ w fa ta t k c xs) : Flats Λ xs xs xs.length := by
 induction h with
 | nil => exact .nil
 | use h1 _ _ ih => exact .one h1.fk ih
 | var h1 _ _ _ _ ih => exact .one h1.fk ih
 | tr _ h1 _ _ _ _ _ _ _ ih => exact .one h1.fk ih
 | decl _ h1 _ _ _ _ _ ih => exact .one h1.fk ih
 | expr h0 _ _ _ _ _ _ _ ih => exact .one h0.fk ih
theorem Ast.len {t : T} {k c : Nat} {xs : List MV} (h : Ast Λ w fa ta t k c xs) : xs.length = topN t := by
 induction h with
 | nil => rfl
 | use _ _ _ ih => exact (congrArg (· + 1) ih).trans (Nat.add_comm _ _)
 | var _ _ _ _ _ ih => exact (congrArg (· + 1) ih).trans (Nat.add_comm _ _)
 | tr _ _ _ _ _ _ _ _ _ ih => exact (congrArg (· + 1) ih).trans (Nat.add_comm _ _)
 | decl _ _ _ _ _ _ _ ih => exact (congrArg (· + 1) ih).trans (Nat.add_comm _ _)
 | expr _ _ _ _ _ _ _ _ ih => exact (congrArg (· + 1) ih).trans (Nat.add_comm _ _)
theorem topN_le : ∀ t : T, topN t ≤ sz t
 | .nil => Nat.le_refl _
 | .use _ r => by have := topN_le r; simp only [topNE, szE]; lia
 | .var _ _ r => by have := topN_le r; simp only [topNE, szE]; lia
 | .tr _ i o r => by have := topN_le r; simp only [topNE, szE]; lia
 | .fn _ _ _ _ _ r => by have := topN_le r; simp only [topNE, szE]; lia
theorem osz_le : ∀ t : T, osz t ≤ sz t
 | .nil => Nat.le_refl _
 | .use _ r => by have := osz_le r; simp only [oszE, szE]; lia
 | .var _ _ r => by have := osz_le r; simp only [oszE, szE]; lia
 | .tr _ i o r => by have := osz_le i; have := osz_le o; have := osz_le r; simp only [oszE, szE]; lia
 | .fn d _ _ _ b r => by have := osz_le r; simp only [oszE, szE]; split <;> lia
theorem Owns.othr {a p : Addr} {ps L R T xs : List MV} {kind : Str} {m n k : Nat} (e : Nd Λ a kind p ps) (h : kind ≠ "Function") (f : Flat Λ (.ref p) L m) (hm : m ≤ 1000) (q : Owns Λ L R n) (r : Owns Λ xs T k) : Owns Λ (.ref a :: xs) (.ref a :: (R ++ T)) (n + k + 1) := .at_ e (.inr ⟨h, m, f, hm⟩) q r
theorem Owns.func {a p : Addr} {ps T xs : List MV} {k : Nat} (e : Nd Λ a "Function" p ps) (r : Owns Λ xs T k) : Owns Λ (.ref a :: xs) (.ref a :: T) (k + 1) := by
 have := Owns.at_ e (.inl ⟨rfl, rfl⟩) .nil r
 rwa [Nat.zero_add] at this
theorem name_own {l q : Addr} {x : Str} (h : Nd Λ l "Name" q [.str x]) : Owns Λ [.ref l] [.ref l] 1 :=
 .othr (m := 2) h (by decide) (Flats.sing (.list h.ps) (.str x .nil)) (Nb rfl) .nil .nil
theorem Nd.parts1 {a p l q : Addr} {kind kind' : Str} {ps : List MV} (h : Nd Λ a kind p [.ref l]) (h' : Nd Λ l kind' q ps) : Flat Λ (.ref p) [.ref l] 2 := Flats.sing (.list h.ps) (.one h'.fk .nil)
noncomputable abbrev VNs (Λ : Sto) (w : N → Str) : List (Option N) → List MV → Prop := F2 fun o v => VN Λ v (o.map w)
noncomputable abbrev NNs (Λ : Sto) (w : N → Str) : List (Option N) → List MV → Prop := F2 fun o v => NN Λ v (o.map w)
theorem var_flat {v p q t l ql : Addr} {x y : Str} (h1 : Nd Λ v "Var" p [.ref q]) (h2 : Λ q = some (.list [.ref t])) (h3 : Λ t = some (.tuple [.str x, .ref l])) (h4 : Nd Λ l "Name" ql [.str y]) : Flat Λ (.ref p) [.ref l] 5 :=
 Flats.sing (.list h1.ps) (.sing (.list h2) (.sing (.tuple h3) (.str x (.one h4.fk .nil))))
theorem try_flat {a p pi po : Addr} {x : Str} {xi xo : List MV} (h1 : Nd Λ a "Try" p [.ref pi, .str x, .ref po, .none]) (h2 : Λ pi = some (.list xi)) (h3 : Λ po = some (.list xo)) (hi : Flats Λ xi xi xi.length) (ho : Flats Λ xo xo xo.length) :
  Flat Λ (.ref p) (xi ++ xo) (xi.length + (xo.length + (0 + 1) + 1 + 1) + 1 + 1) := by
 have := Flats.sing (.list h1.ps) (.list h2 hi (.str x (.list h3 ho (.skip (.oth (.inl rfl)) .nil))))
 rwa [List.append_nil] at this
theorem sum3 {a b c n : Nat} (h : 1 + a + b + c ≤ n) : a ≤ n ∧ b ≤ n ∧ c ≤ n := by lia
theorem try_len {a b i o c : Nat} (h : 1 + i + o + c ≤ 400) (ha : a ≤ i) (hb : b ≤ o) : a + (b + (0 + 1) + 1 + 1) + 1 + 1 ≤ 1000 := by lia
theorem Ast.owns {t : T} {k c : Nat} {xs : List MV} (h : Ast Λ w fa ta t k c xs) : sz t ≤ 400 → ∃ R, Owns Λ xs R (osz t) ∧ VNs Λ w (vsN t) R ∧ NNs Λ w (nsN t) R := by
 induction h with
 | nil => exact fun U => ⟨[], .nil, F2.nil, F2.nil⟩
 | @use x r k c xs e p l q h1 h2 hr ih =>
  intro hz
  refine xe13 (ih (Nat.le_trans (Nat.le_add_left ..) hz)) fun R i1 i2 i3 => ?_
  exact ⟨.ref e :: .ref l :: R, .othr h1 (by decide) (h1.parts1 h2) (Nb rfl) (name_own h2) i1, (i2.cons (.other h2 (by decide))).cons (.other h1 (by decide)), (i3.cons (.name h2)).cons (.other h1 (by decide))⟩
 | @var x y r k c xs v p q t l ql h1 h2 h3 h4 hr ih =>
  intro hz
  refine xe13 (ih (Nat.le_trans (Nat.le_add_left ..) hz)) fun R i1 i2 i3 => ?_
  exact ⟨.ref v :: .ref l :: R, .othr h1 (by decide) (var_flat h1 h2 h3 h4) (Nb rfl) (name_own h4) i1, (i2.cons (.other h4 (by decide))).cons (.var h1 h2 h3), (i3.cons (.name h4)).cons (.other h1 (by decide))⟩
 | @tr x i o r k c a p pi po xi xo xs ha h1 h2 h3 hi ho hr ihi iho ihr =>
  intro hz
  refine xe03 (sum3 hz) fun z1 z2 z3 => ?_
  refine xe13 (ihi z1) fun Ri i1 i2 i3 => ?_
  refine xe13 (iho z2) fun Ro o1 o2 o3 => ?_
  refine xe13 (ihr z3) fun R r1 r2 r3 => ?_
  exact ⟨.ref a :: ((Ri ++ Ro) ++ R), .othr h1 (by decide) (try_flat h1 h2 h3 hi.flats ho.flats) (try_len hz (hi.len ▸ topN_le i) (ho.len ▸ topN_le o)) (i1.app o1) r1, ((i2.app o2).app r2).cons (.other h1 (by decide)), ((i3.app o3).app r3).cons (.other h1 (by decide))⟩
 | @decl x ps st b r k c a p pp pb xb xs ha h1 h2 h3 hb hr _ ih =>
  intro hz
  refine xe13 (ih (Nat.le_trans (Nat.le_add_left ..) hz)) fun R i1 i2 i3 => ?_
  exact ⟨.ref a :: R, (show Owns Λ _ _ (0 + osz r + 1) by rw [Nat.zero_add]; exact .func h1 i1), i2.cons (.other h1 (by decide)), i3.cons (.other h1 (by decide))⟩
 | @expr x ps st b r k c e pe a p pp pb xb xs h0 ha h1 h2 h3 hb hr _ ih =>
  intro hz
  refine xe13 (ih (Nat.le_trans (Nat.le_add_left ..) hz)) fun R i1 i2 i3 => ?_
  exact ⟨.ref e :: .ref a :: R, .othr h0 (by decide) (h0.parts1 h1) (Nb rfl) (.func h1 .nil) i1, (i2.cons (.other h1 (by decide))).cons (.other h0 (by decide)), (i3.cons (.other h1 (by decide))).cons (.other h0 (by decide))⟩
theorem Ast.fds {t : T} {k c : Nat} {xs : List MV} (h : Ast Λ w fa ta t k c xs) : F2 (fun (o : Option N) v => FD Λ v (o.map w)) (dsN t) xs := by
 induction h with
 | nil => exact F2.nil
 | use h1 _ _ ih => exact ih.cons (.other h1 (by decide))
 | var h1 _ _ _ _ ih => exact ih.cons (.other h1 (by decide))
 | tr _ h1 _ _ _ _ _ _ _ ih => exact ih.cons (.other h1 (by decide))
 | decl _ h1 _ _ _ _ _ ih => exact ih.cons (.decl h1)
 | expr h0 _ _ _ _ _ _ _ ih => exact ih.cons (.other h0 (by decide))
theorem F2.toMap {R : MV → Option Str → Prop} {l : List (Option N)} {xs : List MV} (h : F2 (fun o v => R v (o.map w)) l xs) : xs.length = (l.map (Option.map w)).length ∧ ∀ (i : Nat) (v : MV) (o : Option Str), xs[i]? = some v → (l.map (Option.map w))[i]? = some o → R v o := by
 refine ⟨by rw [List.length_map, h.1], fun i v o e1 e2 => ?_⟩
 rw [List.getElem?_map] at e2
 refine xe12 (Option.map_eq_some_iff.mp e2) fun y e3 eq2 => ?_; obtain rfl := eq2
 exact h.2 i y v e3 e1
theorem Ast.body {t : T} {k c : Nat} {xs : List MV} {pb : Addr} (h : Ast Λ w fa ta t k c xs) (hz : sz t ≤ 400) (e : Λ pb = some (.list xs)) : Body Λ pb ((dsN t).map (Option.map w)) ((vsN t).map (Option.map w)) ((nsN t).map (Option.map w)) := by
 refine xe13 (h.owns hz) fun R o1 o2 o3 => ?_
 have hl := h.len
 have := topN_le t
 have := osz_le t
 refine xe02 h.fds.toMap fun d1 d2 => ?_
 refine xe02 o2.toMap fun v1 v2 => ?_
 refine xe02 o3.toMap fun n1 n2 => ?_
 exact ⟨xs, xs, R, xs.length + 1, osz t, e, by lia, d1, d2, Flats.sing (.list e) h.flats, by lia, o1, by lia, v1, v2, n1, n2⟩
end
end
section
noncomputable def addN (xs : List N) (x : N) : List N := if xs.contains x then xs else xs ++ [x]
noncomputable def addO (xs : List N) (x : Option N) : List N := match x with
 | some x => addN xs x
 | none => xs
noncomputable def needN (ps : List N) (t : T) : Bool := !(ps.contains 4 || ((dsN t).filterMap id).contains 4) && ((nsN t).any (fun o => o == some 4) || ((vsN t).foldl addO []).contains 4)
noncomputable def bindN (ps : List N) (t : T) : List N :=
 ((vsN t).foldl addO []).foldl addN (if needN ps t then addN (((dsN t).filterMap id).foldl addN (ps.foldl addN [])) 4 else ((dsN t).filterMap id).foldl addN (ps.foldl addN []))
section
variable {w : N → Str} (hw : ∀ x y, w x = w y → x = y)
include hw
theorem contains_w (xs : List N) (x : N) : (xs.map w).contains (w x) = xs.contains x := by
 induction xs with
 | nil => rfl
 | cons y ys ih =>
  rw [List.map_cons, List.contains_cons, List.contains_cons, ih, beq_w hw]
  congr 1
theorem addOnce_w (xs : List N) (x : N) : addOnce (xs.map w) (w x) = (addN xs x).map w := by
 unfold addOnce addN
 rw [contains_w hw]
 split
 ·rfl
 ·rw [List.map_append]; rfl
theorem addOpt_w (xs : List N) (x : Option N) : addOpt (xs.map w) (x.map w) = (addO xs x).map w := by
 cases x with
 | none => rfl
 | some x => exact addOnce_w hw xs x
theorem foldOnce_w : ∀ (ys xs : List N), (ys.map w).foldl addOnce (xs.map w) = (ys.foldl addN xs).map w
 | [], _ => rfl
 | y :: ys, xs => by rw [List.map_cons, List.foldl_cons, List.foldl_cons, addOnce_w hw, foldOnce_w ys]
theorem foldOpt_w : ∀ (ys : List (Option N)) (xs : List N), (ys.map (Option.map w)).foldl addOpt (xs.map w) = (ys.foldl addO xs).map w
 | [], _ => rfl
 | y :: ys, xs => by rw [List.map_cons, List.foldl_cons, List.foldl_cons, addOpt_w hw, foldOpt_w ys]
theorem declNames_w (ds : List (Option N)) : declNames (ds.map (Option.map w)) = (ds.filterMap id).map w := by
 unfold declNames
 induction ds with
 | nil => rfl
 | cons o ds ih => cases o <;> simp_all
theorem varNames_w (vs : List (Option N)) : varNames (vs.map (Option.map w)) = (vs.foldl addO []).map w := foldOpt_w hw vs []
theorem readsName_w (ns : List (Option N)) (x : N) : readsName (ns.map (Option.map w)) (w x) = ns.any (fun o => o == some x) := by
 unfold readsName
 induction ns with
 | nil => rfl
 | cons o ns ih =>
  rw [List.map_cons, List.any_cons, List.any_cons, ih]
  congr 1
  cases o with
  | none => rfl
  | some y => exact beq_w hw y x
theorem needs_w (h4 : w 4 = "arguments") (ps : List N) (t : T) : needsArgs (ps.map w) ((dsN t).map (Option.map w)) ((vsN t).map (Option.map w)) ((nsN t).map (Option.map w)) = needN ps t := by
 unfold needsArgs needN
 rw [← h4, contains_w hw, declNames_w hw, contains_w hw, readsName_w hw, varNames_w hw, contains_w hw]
theorem bind_w (h4 : w 4 = "arguments") (ps : List N) (t : T) : bindNames (ps.map w) ((dsN t).map (Option.map w)) ((vsN t).map (Option.map w)) ((nsN t).map (Option.map w)) = (bindN ps t).map w := by
 unfold bindNames bindN
 have e0 : ([] : List Str) = ([] : List N).map w := rfl
 rw [needs_w hw h4, declNames_w hw, varNames_w hw, e0, foldOnce_w hw, foldOnce_w hw, ← h4]
 split
 ·rw [addOnce_w hw, foldOnce_w hw]
 ·rw [foldOnce_w hw]
end
theorem addN_nodup {xs : List N} {x : N} (h : xs.Nodup) : (addN xs x).Nodup := by
 unfold addN
 split
 ·exact h
 ·rename_i q
  rw [List.contains_iff_mem] at q
  rw [List.nodup_append]
  exact ⟨h, by simp, fun a ha b hb e => by rw [List.mem_singleton] at hb; subst hb; subst e; exact q ha⟩
theorem foldN_nodup : ∀ {ys xs : List N}, xs.Nodup → (ys.foldl addN xs).Nodup
 | [], _, h => h
 | y :: ys, xs, h => by rw [List.foldl_cons]; exact foldN_nodup (addN_nodup h)
theorem bindN_nodup (ps : List N) (t : T) : (bindN ps t).Nodup := by
 unfold bindN
 refine foldN_nodup ?_
 split
 ·exact addN_nodup (foldN_nodup (foldN_nodup List.nodup_nil))
 ·exact foldN_nodup (foldN_nodup List.nodup_nil)
theorem nodup_len5 {l : List N} (h : l.Nodup) : l.length ≤ 5 := by
 have key : ∀ (n : Nat) (l : List (Fin n)), l.Nodup → l.length ≤ n := by
  intro n
  induction n with
  | zero => intro l _; cases l with
   | nil => exact Nat.le_refl _
   | cons a _ => exact a.elim0
  | succ n ih =>
   intro l hl
   have h2 : (l.filter (fun x => decide (x ≠ Fin.last n))).length ≤ n := by
    have hm : ∀ x ∈ l.filter (fun x => decide (x ≠ Fin.last n)), x.val < n := fun x hx => by
     have := (List.mem_filter.mp hx).2
     have h3 : x ≠ Fin.last n := of_decide_eq_true this
     have := x.isLt
     have : x.val ≠ n := fun e => h3 (Fin.ext e)
     lia
    have := ih ((l.filter (fun x => decide (x ≠ Fin.last n))).attach.map fun x => ⟨x.1.val, hm x.1 x.2⟩) (by
     rw [List.nodup_iff_pairwise_ne, List.pairwise_map]
     have hf : (l.filter (fun x => decide (x ≠ Fin.last n))).Nodup := List.Nodup.sublist List.filter_sublist hl
     have : (l.filter (fun x => decide (x ≠ Fin.last n))).attach.Pairwise (fun a b => a.1 ≠ b.1) := by
      rw [← List.pairwise_map (f := Subtype.val) (R := fun a b => a ≠ b), List.attach_map_subtype_val]
      exact hf
     exact this.imp fun {a b} hab e => hab (Fin.ext (by injection e)))
    simpa using this
   have h3 : l.length ≤ (l.filter (fun x => decide (x ≠ Fin.last n))).length + 1 := by
    clear h2 ih h
    induction l with
    | nil => exact Nat.zero_le _
    | cons a l ih =>
     rw [List.nodup_cons] at hl
     by_cases ha : a = Fin.last n
     ·subst ha
      have : l.filter (fun x => decide (x ≠ Fin.last n)) = l := List.filter_eq_self.mpr fun x hx => decide_eq_true fun e => hl.1 (e ▸ hx)
      rw [List.filter_cons, if_neg (by simp), this, List.length_cons]
      exact Nat.le_refl _
     ·rw [List.filter_cons, if_pos (decide_eq_true ha), List.length_cons, List.length_cons]
      have := ih hl.2
      lia
   lia
 exact key 5 l h
end
section
noncomputable def kidAdd (S : AS) (f k : Nat) : AS := setSc S f fun s => { s with kids := s.kids ++ [k] }
noncomputable def catAdd (S : AS) (f c : Nat) : AS := setSc S f fun s => { s with cats := s.cats ++ [c] }
noncomputable def sfN (d : Bool) (x : N) (ps : List N) (b : T) : Option N := if d = false ∧ x ∉ bindN ps b then some x else none
noncomputable def scFn (S : AS) (ch : List VE) (f : Nat) (d : Bool) (x : N) (ps : List N) (st : Bool) (b : T) : AS := kidAdd (newSc S ch st (needN ps b) ps (bindN ps b) (sfN d x ps b)) f S.n
noncomputable def scTr (S : AS) (ch : List VE) (f : Nat) (x : N) : AS := catAdd (newCt S ch x) f S.m
noncomputable abbrev Uses := List (List VE × N)
noncomputable def scan : T → List VE → Nat → AS × Uses → AS × Uses
 | .nil, _, _, q => q
 | .use x r, ch, f, q => scan r ch f (q.1, q.2 ++ [(ch, x)])
 | .var x y r, ch, f, q => scan r ch f (q.1, q.2 ++ [(ch, x)] ++ [(ch, y)])
 | .tr x i o r, ch, f, q => scan r ch f (scan o (.ct q.1.m x :: ch) f (scan i ch f (scTr q.1 ch f x, q.2)))
 | .fn d x ps st b r, ch, f, q => scan r ch f (scan b (.sc q.1.n (bindN ps b) (sfN d x ps b) :: ch) q.1.n (scFn q.1 ch f d x ps st b, q.2))
theorem scanE : (∀ u1 u2 q, scan .nil u1 u2 q = (q)) ∧ (∀ x r ch f q, scan (.use x r) ch f q = (scan r ch f (q.1, q.2 ++ [(ch, x)]))) ∧ (∀ x y r ch f q, scan (.var x y r) ch f q = (scan r ch f (q.1, q.2 ++ [(ch, x)] ++ [(ch, y)]))) ∧ (∀ x i o r ch f q, scan (.tr x i o r) ch f q = (scan r ch f (scan o (.ct q.1.m x :: ch) f (scan i ch f (scTr q.1 ch f x, q.2))))) ∧ (∀ d x ps st b r ch f q, scan (.fn d x ps st b r) ch f q = (scan r ch f (scan b (.sc q.1.n (bindN ps b) (sfN d x ps b) :: ch) q.1.n (scFn q.1 ch f d x ps st b, q.2)))) := ⟨fun U U U => rfl, fun U U U U U => rfl, fun U U U U U U => rfl, fun U U U U U U U => rfl, fun U U U U U U U U U => rfl⟩
noncomputable def dep : T → Nat
 | .nil => 0
 | .use _ r => dep r
 | .var _ _ r => dep r
 | .tr _ i o r => max (1 + max (dep i) (dep o)) (dep r)
 | .fn _ _ _ _ b r => max (1 + dep b) (dep r)
theorem depE : (dep .nil = (0)) ∧ (∀ u1 r, dep (.use u1 r) = (dep r)) ∧ (∀ u1 u2 r, dep (.var u1 u2 r) = (dep r)) ∧ (∀ u1 i o r, dep (.tr u1 i o r) = (max (1 + max (dep i) (dep o)) (dep r))) ∧ (∀ u1 u2 u3 u4 b r, dep (.fn u1 u2 u3 u4 b r) = (max (1 + dep b) (dep r))) := ⟨rfl, fun U U => rfl, fun U U U => rfl, fun U U U U => rfl, fun U U U U U U => rfl⟩
theorem scan_n : ∀ (t : T) (ch : List VE) (f : Nat) (q : AS × Uses), (scan t ch f q).1.n = q.1.n + nf t ∧ (scan t ch f q).1.m = q.1.m + nt t ∧ (scan t ch f q).2.length ≤ q.2.length + sz t
 | .nil, _, _, q => ⟨rfl, rfl, Nat.le_refl _⟩
 | .use x r, ch, f, q => by
  refine xe03 (scan_n r ch f (q.1, q.2 ++ [(ch, x)])) fun h1 h2 h3 => ?_
  simp only [List.length_append, List.length_singleton] at h3
  exact ⟨h1, h2, by simp only [szE, scanE]; lia⟩
 | .var x y r, ch, f, q => by
  refine xe03 (scan_n r ch f (q.1, q.2 ++ [(ch, x)] ++ [(ch, y)])) fun h1 h2 h3 => ?_
  simp only [List.length_append, List.length_singleton] at h3
  exact ⟨h1, h2, by simp only [szE, scanE]; lia⟩
 | .tr x i o r, ch, f, q => by
  refine xe03 (scan_n i ch f (scTr q.1 ch f x, q.2)) fun i1 i2 i3 => ?_
  refine xe03 (scan_n o (.ct q.1.m x :: ch) f (scan i ch f (scTr q.1 ch f x, q.2))) fun o1 o2 o3 => ?_
  refine xe03 (scan_n r ch f (scan o (.ct q.1.m x :: ch) f (scan i ch f (scTr q.1 ch f x, q.2)))) fun r1 r2 r3 => ?_
  have e1 : (scTr q.1 ch f x).n = q.1.n := rfl
  have e2 : (scTr q.1 ch f x).m = q.1.m + 1 := rfl
  simp only [scanE, nfE, ntE, szE] at *
  lia
 | .fn d x ps st b r, ch, f, q => by
  refine xe03 (scan_n b (.sc q.1.n (bindN ps b) (sfN d x ps b) :: ch) q.1.n (scFn q.1 ch f d x ps st b, q.2)) fun i1 i2 i3 => ?_
  refine xe03 (scan_n r ch f (scan b (.sc q.1.n (bindN ps b) (sfN d x ps b) :: ch) q.1.n (scFn q.1 ch f d x ps st b, q.2))) fun r1 r2 r3 => ?_
  have e1 : (scFn q.1 ch f d x ps st b).n = q.1.n + 1 := rfl
  have e2 : (scFn q.1 ch f d x ps st b).m = q.1.m := rfl
  simp only [scanE, nfE, ntE, szE] at *
  lia
theorem nfnt_le : ∀ t : T, nf t + nt t ≤ sz t
 | .nil => Nat.le_refl _
 | .use _ r => by have := nfnt_le r; simp only [nfE, ntE, szE]; lia
 | .var _ _ r => by have := nfnt_le r; simp only [nfE, ntE, szE]; lia
 | .tr _ i o r => by have := nfnt_le i; have := nfnt_le o; have := nfnt_le r; simp only [nfE, ntE, szE]; lia
 | .fn _ _ _ _ b r => by have := nfnt_le b; have := nfnt_le r; simp only [nfE, ntE, szE]; lia
structure Z where
 D : List (Addr × Role)
 μ : Map
 S : AS
 us : Uses
structure SLe (S S' : AS) : Prop where
 n : S.n ≤ S'.n
 m : S.m ≤ S'.m
 sc : ∀ k, k < S.n → (S'.sc k).own = (S.sc k).own ∧ (S'.sc k).sf = (S.sc k).sf ∧ (S'.sc k).ch = (S.sc k).ch
 ct : ∀ c, c < S.m → S'.ct c = S.ct c
theorem SLe.refl {S : AS} : SLe S S := ⟨Nat.le_refl _, Nat.le_refl _, fun U U => ⟨rfl, rfl, rfl⟩, fun U U => rfl⟩
theorem SLe.trans {S S' S'' : AS} (h : SLe S S') (h' : SLe S' S'') : SLe S S'' := ⟨Nat.le_trans h.n h'.n, Nat.le_trans h.m h'.m, fun k hk => by
 refine xe03 (h.sc k hk) fun a1 a2 a3 => ?_
 refine xe03 (h'.sc k (Nat.lt_of_lt_of_le hk h.n)) fun b1 b2 b3 => ?_
 exact ⟨b1.trans a1, b2.trans a2, b3.trans a3⟩, fun c hc => (h'.ct c (Nat.lt_of_lt_of_le hc h.m)).trans (h.ct c hc)⟩
theorem ChOk.le {S S' : AS} (h : SLe S S') {ch : List VE} (ok : ChOk S ch) : ChOk S' ch := ok.mono h.n h.m h.sc h.ct
theorem sc_setSc {β : Type} (g : Sc → β) {S : AS} {f : Nat} {F : Sc → Sc} (h : g (F (S.sc f)) = g (S.sc f)) (k : Nat) : g ((setSc S f F).sc k) = g (S.sc k) := upd_at g h k
theorem scFn_sc {S : AS} {ch : List VE} {f : Nat} {d : Bool} {x : N} {ps : List N} {st : Bool} {b : T} {β : Type} (g : Sc → β) (hg : ∀ (s : Sc) l, g { s with kids := l } = g s) {k : Nat} (hk : k < S.n) : g ((scFn S ch f d x ps st b).sc k) = g (S.sc k) := by
 unfold scFn kidAdd
 rw [sc_setSc g (hg _ _)]
 show g (upd S.sc S.n _ k) = _
 rw [upd_ne _ _ (by lia)]
theorem scFn_new {S : AS} {ch : List VE} {f : Nat} {d : Bool} {x : N} {ps : List N} {st : Bool} {b : T} {β : Type} (g : Sc → β) (hg : ∀ (s : Sc) l, g { s with kids := l } = g s) : g ((scFn S ch f d x ps st b).sc S.n) = g ⟨ch, st, needN ps b, ps, bindN ps b, sfN d x ps b, [], [], 0, 0, [], [], []⟩ := by
 unfold scFn kidAdd
 rw [sc_setSc g (hg _ _)]
 show g (upd S.sc S.n _ S.n) = _
 rw [upd_self]
theorem scTr_sc {S : AS} {ch : List VE} {f : Nat} {x : N} {β : Type} (g : Sc → β) (hg : ∀ (s : Sc) l, g { s with cats := l } = g s) (k : Nat) : g ((scTr S ch f x).sc k) = g (S.sc k) := by
 unfold scTr catAdd
 rw [sc_setSc g (hg _ _)]
 rfl
theorem scFn_le {S : AS} {ch : List VE} {f : Nat} {d : Bool} {x : N} {ps : List N} {st : Bool} {b : T} : SLe S (scFn S ch f d x ps st b) :=
 ⟨Nat.le_succ _, Nat.le_refl _, fun U hk => ⟨scFn_sc Sc.own (fun U U => rfl) hk, scFn_sc Sc.sf (fun U U => rfl) hk, scFn_sc Sc.ch (fun U U => rfl) hk⟩, fun U U => rfl⟩
theorem scTr_ct {S : AS} {ch : List VE} {f : Nat} {x : N} : (scTr S ch f x).ct S.m = ⟨ch, x⟩ := upd_self ..
theorem scTr_le {S : AS} {ch : List VE} {f : Nat} {x : N} : SLe S (scTr S ch f x) :=
 ⟨Nat.le_refl _, Nat.le_succ _, fun k U => ⟨scTr_sc Sc.own (fun U U => rfl) k, scTr_sc Sc.sf (fun U U => rfl) k, scTr_sc Sc.ch (fun U U => rfl) k⟩, fun c hc => by show upd S.ct S.m _ c = _; rw [upd_ne _ _ (by lia)]⟩
structure J (fa ta : List Addr) (z : Z) : Prop where
 cap : ∀ b, z.S.cap b = false
 pl : ∀ b, z.S.pl b = none
 kids : ∀ k, (z.S.sc k).kids.length ≤ z.S.n ∧ (z.S.sc k).cats.length ≤ z.S.m
 D : ∀ q ∈ z.D, (∃ j, j < z.S.n ∧ fa[j]? = some q.1) ∨ (∃ c, c < z.S.m ∧ ta[c]? = some q.1)
 Df : ∀ j a, j < z.S.n → fa[j]? = some a → (a, .sc j) ∈ z.D
 Dt : ∀ c a, c < z.S.m → ta[c]? = some a → (a, .ct c) ∈ z.D
 lf : ∀ j, j < z.S.n → ∃ a, z.μ (.sc j) = some a
 lt : ∀ c, c < z.S.m → ∃ a, z.μ (.ct c) = some a
structure ChI (z : Z) (ch : List VE) (f : Nat) (v : MV) : Prop where
 vv : VV z.μ ch v
 ok : ChOk z.S ch
 fn : fnV ch = some f
 hok : v.hok = true
structure ZLe (z z' : Z) : Prop where
 m : MSub z.μ z'.μ
 s : SLe z.S z'.S
theorem ZLe.refl {z : Z} : ZLe z z := ⟨MSub.refl, SLe.refl⟩
theorem ZLe.trans {z z' z'' : Z} (h : ZLe z z') (h' : ZLe z' z'') : ZLe z z'' := ⟨fun r a e => h'.m _ _ (h.m _ _ e), h.s.trans h'.s⟩
theorem ChI.le {z z' : Z} {ch : List VE} {f : Nat} {v : MV} (h : ChI z ch f v) (l : ZLe z z') : ChI z' ch f v := ⟨h.vv.mono l.m, h.ok.le l.s, h.fn, h.hok⟩
theorem fnV_lt {S : AS} : ∀ {ch : List VE} {f : Nat}, ChOk S ch → fnV ch = some f → f < S.n
 | .sc k _ _ :: _, f, ok, e => by obtain rfl := si e; exact ok.1
 | .ct _ _ :: r, f, ok, e => fnV_lt (ch := r) ok.2.2.2 e
noncomputable def Bz (z : Z) (j : Nat) : Prop := z.us.length + j ≤ 1000 ∧ z.S.n + j ≤ 1000 ∧ z.S.m + j ≤ 1000
theorem J.fn {fa ta : List Addr} {z : Z} (h : J fa ta z) {ch : List VE} {f : Nat} {d : Bool} {x : N} {ps : List N} {st : Bool} {b : T} {a s : Addr} {μ' : Map} (ha : fa[z.S.n]? = some a) (m : MSub z.μ μ') (hs : μ' (.sc z.S.n) = some s) :
  J fa ta ⟨(a, .sc z.S.n) :: z.D, μ', scFn z.S ch f d x ps st b, z.us⟩ := by
 refine ⟨h.cap, h.pl, fun k => ?_, fun q hq => ?_, fun j y hj hy => ?_, fun c y hc hy => List.mem_cons_of_mem _ (h.Dt c y hc hy), fun j hj => ?_, fun c hc => ?_⟩
 ·refine xe02 (h.kids k) fun k1 k2 => ?_
  show (((scFn z.S ch f d x ps st b).sc k)).kids.length ≤ z.S.n + 1 ∧ ((scFn z.S ch f d x ps st b).sc k).cats.length ≤ z.S.m
  have e0 : ∀ k, (((newSc z.S ch st (needN ps b) ps (bindN ps b) (sfN d x ps b)).sc k)).kids.length ≤ z.S.n ∧ ((newSc z.S ch st (needN ps b) ps (bindN ps b) (sfN d x ps b)).sc k).cats.length ≤ z.S.m := fun k => by
   show (upd z.S.sc z.S.n _ k).kids.length ≤ _ ∧ (upd z.S.sc z.S.n _ k).cats.length ≤ _
   by_cases e : k = z.S.n
   ·subst e; rw [upd_self]; exact ⟨Nat.zero_le _, Nat.zero_le _⟩
   ·rw [upd_ne _ _ e]; exact h.kids k
  unfold scFn kidAdd
  by_cases e : k = f
  ·subst e
   rw [setSc_self]
   have := e0 k
   simp only [List.length_append, List.length_singleton]
   lia
  ·rw [setSc_ne e]
   have := e0 k
   lia
 ·rcases List.mem_cons.mp hq with rfl | hq
  ·exact .inl ⟨z.S.n, Nat.lt_succ_self _, ha⟩
  ·rcases h.D q hq with ⟨j, h1, h2⟩ | ⟨c, h1, h2⟩
   ·exact .inl ⟨j, Nat.lt_succ_of_lt h1, h2⟩
   ·exact .inr ⟨c, h1, h2⟩
 ·have hj : j < z.S.n + 1 := hj
  by_cases e : j = z.S.n
  ·subst e; obtain rfl := si (ha.symm.trans hy); exact List.mem_cons_self ..
  ·exact List.mem_cons_of_mem _ (h.Df j y (by lia) hy)
 ·have hj : j < z.S.n + 1 := hj
  by_cases e : j = z.S.n
  ·subst e; exact ⟨s, hs⟩
  ·refine xe11 (h.lf j (by lia)) fun y e => ?_; exact ⟨y, m _ _ e⟩
 ·refine xe11 (h.lt c hc) fun y e => ?_; exact ⟨y, m _ _ e⟩
theorem J.tr {fa ta : List Addr} {z : Z} (h : J fa ta z) {ch : List VE} {f : Nat} {x : N} {a s : Addr} {μ' : Map} (ha : ta[z.S.m]? = some a) (m : MSub z.μ μ') (hs : μ' (.ct z.S.m) = some s) :
  J fa ta ⟨(a, .ct z.S.m) :: z.D, μ', scTr z.S ch f x, z.us⟩ := by
 refine ⟨h.cap, h.pl, fun k => ?_, fun q hq => ?_, fun j y hj hy => List.mem_cons_of_mem _ (h.Df j y hj hy), fun c y hc hy => ?_, fun j hj => ?_, fun c hc => ?_⟩
 ·show (((scTr z.S ch f x).sc k)).kids.length ≤ z.S.n ∧ ((scTr z.S ch f x).sc k).cats.length ≤ z.S.m + 1
  have e0 : ∀ k, (((newCt z.S ch x).sc k)).kids.length ≤ z.S.n ∧ ((newCt z.S ch x).sc k).cats.length ≤ z.S.m := h.kids
  unfold scTr catAdd
  by_cases e : k = f
  ·subst e
   rw [setSc_self]
   have := e0 k
   simp only [List.length_append, List.length_singleton]
   lia
  ·rw [setSc_ne e]
   have := e0 k
   lia
 ·rcases List.mem_cons.mp hq with rfl | hq
  ·exact .inr ⟨z.S.m, Nat.lt_succ_self _, ha⟩
  ·rcases h.D q hq with ⟨j, h1, h2⟩ | ⟨c, h1, h2⟩
   ·exact .inl ⟨j, h1, h2⟩
   ·exact .inr ⟨c, Nat.lt_succ_of_lt h1, h2⟩
 ·have hj : c < z.S.m + 1 := hc
  by_cases e : c = z.S.m
  ·subst e; obtain rfl := si (ha.symm.trans hy); exact List.mem_cons_self ..
  ·exact List.mem_cons_of_mem _ (h.Dt c y (by lia) hy)
 ·refine xe11 (h.lf j hj) fun y e => ?_; exact ⟨y, m _ _ e⟩
 ·have hc : c < z.S.m + 1 := hc
  by_cases e : c = z.S.m
  ·subst e; exact ⟨s, hs⟩
  ·refine xe11 (h.lt c (by lia)) fun y e => ?_; exact ⟨y, m _ _ e⟩
noncomputable def wfT : T → Prop
 | .nil => True
 | .use _ r => wfT r
 | .var _ _ r => wfT r
 | .tr _ i o r => wfT i ∧ wfT o ∧ wfT r
 | .fn _ _ ps _ b r => ps.length ≤ 10 ∧ wfT b ∧ wfT r
theorem wfTE : (wfT .nil = (True)) ∧ (∀ u1 r, wfT (.use u1 r) = (wfT r)) ∧ (∀ u1 u2 r, wfT (.var u1 u2 r) = (wfT r)) ∧ (∀ u1 i o r, wfT (.tr u1 i o r) = (wfT i ∧ wfT o ∧ wfT r)) ∧ (∀ u1 u2 ps u3 b r, wfT (.fn u1 u2 ps u3 b r) = (ps.length ≤ 10 ∧ wfT b ∧ wfT r)) := ⟨rfl, fun U U => rfl, fun U U U => rfl, fun U U U U => rfl, fun U U U U U U => rfl⟩
theorem ds_len : ∀ t : T, (dsN t).length ≤ sz t ∧ (vsN t).length ≤ sz t
 | .nil => ⟨Nat.le_refl _, Nat.le_refl _⟩
 | .use _ r => by have := ds_len r; simp only [dsNE, vsNE, szE, List.length_cons]; lia
 | .var _ _ r => by have := ds_len r; simp only [dsNE, vsNE, szE, List.length_cons]; lia
 | .tr _ i o r => by have := ds_len r; have := ds_len i; have := ds_len o; simp only [dsNE, vsNE, szE, List.length_cons, List.length_append]; lia
 | .fn d _ _ _ b r => by
  have := ds_len r
  cases d <;> simp [dsNE, vsNE, szE] <;> lia
section
variable {Λ : Sto} {w : N → Str} {fa ta : List Addr} {P : Loc → Prop} {R : Loc → Z → List (MV × MV) → Prop}
noncomputable def SExpr (Λ : Sto) (P : Loc → Prop) (R : Loc → Z → List (MV × MV) → Prop) : Prop := ∀ (ρ : Loc) (z : Z) (St : List (MV × MV)) (e p l q : Addr) (v : MV) (kd : Str) (ps : List MV), P ρ → Nd Λ e "Expr" p [.ref l] → Nd Λ l kd q ps → v.hok = true → St.length ≤ 2000 → (∀ ρ', P ρ' → R ρ' z (St ++ [(.ref l, v)])) → R ρ z (St ++ [(.ref e, v)])
noncomputable def SName (Λ : Sto) (w : N → Str) (P : Loc → Prop) (R : Loc → Z → List (MV × MV) → Prop) : Prop := ∀ (ρ : Loc) (z : Z) (St : List (MV × MV)) (l q : Addr) (v : MV) (ch : List VE) (x : N), P ρ → Nd Λ l "Name" q [.str (w x)] → VV z.μ ch v → v.hok = true → St.length ≤ 2000 → z.us.length ≤ 1000 → (∀ ρ', P ρ' → R ρ' ⟨z.D, z.μ, z.S, z.us ++ [(ch, x)]⟩ St) → R ρ z (St ++ [(.ref l, v)])
noncomputable def SVar (Λ : Sto) (w : N → Str) (P : Loc → Prop) (R : Loc → Z → List (MV × MV) → Prop) : Prop := ∀ (ρ : Loc) (z : Z) (St : List (MV × MV)) (a p q t l ql : Addr) (v : MV) (ch : List VE) (x y : N), P ρ → Nd Λ a "Var" p [.ref q] → Λ q = some (.list [.ref t]) → Λ t = some (.tuple [.str (w x), .ref l]) → Nd Λ l "Name" ql [.str (w y)] → VV z.μ ch v → v.hok = true → St.length ≤ 2000 → z.us.length ≤ 1000 →
   (∀ ρ', P ρ' → R ρ' ⟨z.D, z.μ, z.S, z.us ++ [(ch, x)]⟩ (St ++ [(.ref l, v)])) → R ρ z (St ++ [(.ref a, v)])
noncomputable def STr (Λ : Sto) (w : N → Str) (fa ta : List Addr) (P : Loc → Prop) (R : Loc → Z → List (MV × MV) → Prop) : Prop := ∀ (ρ : Loc) (z : Z) (St : List (MV × MV)) (a p pi po : Addr) (x : N) (xi xo : List MV) (ch : List VE) (f : Nat) (v : MV), P ρ → J fa ta z → ChI z ch f v → ch.length ≤ 50 → ta[z.S.m]? = some a → Nd Λ a "Try" p [.ref pi, .str (w x), .ref po, .none] → Λ pi = some (.list xi) → Λ po = some (.list xo) → Flats Λ xi xi xi.length → Flats Λ xo xo xo.length →
   St.length + xi.length + xo.length ≤ 3000 → Bz z 0 → xi.length + xo.length ≤ 400 →
   (∀ ρ' z' s, P ρ' → J fa ta z' → ZLe z z' → z'.μ (.ct z.S.m) = some s → z'.S = scTr z.S ch f x → z'.us = z.us → R ρ' z' (St ++ (xo.map fun e => (e, MV.ref s)).reverse ++ (xi.map fun e => (e, v)).reverse)) → R ρ z (St ++ [(.ref a, v)])
noncomputable def SFn (Λ : Sto) (w : N → Str) (fa ta : List Addr) (P : Loc → Prop) (R : Loc → Z → List (MV × MV) → Prop) : Prop := ∀ (ρ : Loc) (z : Z) (St : List (MV × MV)) (a p pp pb : Addr) (d : Bool) (x : N) (ps : List N) (st : Bool) (b : T) (xb : List MV) (ch : List VE) (f : Nat) (v : MV), P ρ → J fa ta z → ChI z ch f v → ch.length ≤ 50 → fa[z.S.n]? = some a →
   Nd Λ a "Function" p [.str (w x), .ref pp, .ref pb, .bool st, .str (if d then "decl" else "expr")] → Λ pp = some (.list (ps.map fun x => .str (w x))) → Λ pb = some (.list xb) → Flats Λ xb xb xb.length →
   Body Λ pb ((dsN b).map (Option.map w)) ((vsN b).map (Option.map w)) ((nsN b).map (Option.map w)) → (dsN b).length ≤ 300 → (vsN b).length ≤ 300 → ps.length ≤ 10 → St.length + xb.length ≤ 3000 → Bz z 0 → xb.length ≤ 400 →
   (∀ ρ' z' s, P ρ' → J fa ta z' → ZLe z z' → z'.μ (.sc z.S.n) = some s → z'.S = scFn z.S ch f d x ps st b → z'.us = z.us → R ρ' z' (St ++ (xb.map fun e => (e, MV.ref s)).reverse)) → R ρ z (St ++ [(.ref a, v)])
theorem J.us {z : Z} {us : Uses} (h : J fa ta z) : J fa ta ⟨z.D, z.μ, z.S, us⟩ := ⟨h.cap, h.pl, h.kids, h.D, h.Df, h.Dt, h.lf, h.lt⟩
theorem ChI.us {z : Z} {us : Uses} {ch : List VE} {f : Nat} {v : MV} (h : ChI z ch f v) : ChI ⟨z.D, z.μ, z.S, us⟩ ch f v := ⟨h.vv, h.ok, h.fn, h.hok⟩
noncomputable def SG (fa ta : List Addr) (P : Loc → Prop) (R : Loc → Z → List (MV × MV) → Prop) (t : T) (k c : Nat) (xs : List MV) : Prop := ∀ (ρ : Loc) (z : Z) (St : List (MV × MV)) (ch : List VE) (f : Nat) (v : MV), P ρ → J fa ta z → ChI z ch f v → ch.length + dep t ≤ 50 → wfT t → sz t ≤ 300 → z.S.n = k → z.S.m = c → St.length + sz t ≤ 2000 → Bz z (sz t) →
   (∀ ρ' z', P ρ' → J fa ta z' → ZLe z z' → z'.S = (scan t ch f (z.S, z.us)).1 → z'.us = (scan t ch f (z.S, z.us)).2 → R ρ' z' St) → R ρ z (St ++ (xs.map fun e => (e, v)).reverse)
theorem scan_fnC (hFn : SFn Λ w fa ta P R) {d : Bool} {x : N} {ps : List N} {st : Bool} {b r : T} {k c : Nat} {a p pp pb : Addr} {xb xs : List MV} (ha : fa[k]? = some a) (h1 : Nd Λ a "Function" p [.str (w x), .ref pp, .ref pb, .bool st, .str (if d then "decl" else "expr")]) (h2 : Λ pp = some (.list (ps.map fun x => .str (w x)))) (h3 : Λ pb = some (.list xb))
  (hb' : Ast Λ w fa ta b (k + 1) c xb) (hr : Ast Λ w fa ta r (k + 1 + nf b) (c + nt b) xs) (ihb : SG fa ta P R b (k + 1) c xb) (ihr : SG fa ta P R r (k + 1 + nf b) (c + nt b) xs) {ρ : Loc} {z : Z} {St : List (MV × MV)} {ch : List VE} {f : Nat} {v : MV}
  (pr : P ρ) (j : J fa ta z) (ci : ChI z ch f v) (hd : ch.length + dep (.fn d x ps st b r) ≤ 50) (hw : wfT (.fn d x ps st b r)) (hs : sz (.fn d x ps st b r) ≤ 300) (hk : z.S.n = k) (hc : z.S.m = c) (hl : St.length + sz (.fn d x ps st b r) ≤ 2000) (hb : Bz z (sz (.fn d x ps st b r)))
  (kk : ∀ ρ' z', P ρ' → J fa ta z' → ZLe z z' → z'.S = (scan (.fn d x ps st b r) ch f (z.S, z.us)).1 → z'.us = (scan (.fn d x ps st b r) ch f (z.S, z.us)).2 → R ρ' z' St) : R ρ z (St ++ (xs.map fun e => (e, v)).reverse ++ [(.ref a, v)]) := by
 simp only [szE, depE, wfTE] at hs hd hl hb hw
 refine xe03 hb fun b1 b2 b3 => ?_
 refine xe03 hw fun w1 w2 w3 => ?_
 subst hk hc
 have tl := topN_le r
 have xl := hr.len
 have tl1 := topN_le b
 have xl1 := hb'.len
 have dl := ds_len b
 refine hFn ρ z _ a p pp pb d x ps st b xb ch f v pr j ci (by lia) ha h1 h2 h3 hb'.flats (hb'.body (by lia) h3) (by lia) (by lia) w1 (by simp only [List.length_append, List.length_reverse, List.length_map]; lia) ⟨by lia, by lia, by lia⟩ (by lia) fun ρ1 z1 s p1 j1 l1 hs1 e1 u1 => ?_
 have n1 : z1.S.n = z.S.n + 1 := by rw [e1]; rfl
 have m1 : z1.S.m = z.S.m := by rw [e1]; rfl
 have cs : ChI z1 (.sc z.S.n (bindN ps b) (sfN d x ps b) :: ch) z.S.n (.ref s) := by
  refine ⟨⟨s, hs1, rfl⟩, ⟨by lia, ?_, ?_, ?_, (ci.le l1).ok⟩, rfl, rfl⟩
  ·rw [e1]; exact scFn_new Sc.own fun U U => rfl
  ·rw [e1]; exact scFn_new Sc.sf fun U U => rfl
  ·rw [e1]; exact scFn_new Sc.ch fun U U => rfl
 refine ihb ρ1 z1 _ _ z.S.n (.ref s) p1 j1 cs (by rw [List.length_cons]; lia) w2 (by lia) n1 m1 (by simp only [List.length_append, List.length_reverse, List.length_map]; lia) ⟨by rw [u1]; lia, by lia, by lia⟩ fun ρ2 z2 p2 j2 l2 e2 u2 => ?_
 refine xe03 (scan_n b (.sc z.S.n (bindN ps b) (sfN d x ps b) :: ch) z.S.n (z1.S, z1.us)) fun n2 m2 s2 => ?_
 rw [← e2] at n2 m2
 rw [← u2] at s2
 dsimp only at n2 m2 s2
 have nl := nfnt_le b
 have l02 : ZLe z z2 := l1.trans l2
 refine ihr ρ2 z2 St ch f v p2 j2 (ci.le l02) (by lia) w3 (by lia) (by lia) (by lia) (by lia) ⟨by rw [u1] at s2; lia, by lia, by lia⟩ fun ρ4 z4 p4 j4 l4 e4 u4 => ?_
 have q : scan (.fn d x ps st b r) ch f (z.S, z.us) = scan r ch f (z2.S, z2.us) := by
  rw [scanE.2.2.2.2]
  have a1 : scan b (.sc z.S.n (bindN ps b) (sfN d x ps b) :: ch) z.S.n (scFn z.S ch f d x ps st b, z.us) = (z2.S, z2.us) := by rw [e2, u2, e1, u1]
  rw [a1]
 exact kk ρ4 z4 p4 j4 (l02.trans l4) (by rw [q]; exact e4) (by rw [q]; exact u4)
theorem scan_loop (hExpr : SExpr Λ P R) (hName : SName Λ w P R) (hVar : SVar Λ w P R) (hTr : STr Λ w fa ta P R) (hFn : SFn Λ w fa ta P R) :
  ∀ {t : T} {k c : Nat} {xs : List MV}, Ast Λ w fa ta t k c xs → ∀ (ρ : Loc) (z : Z) (St : List (MV × MV)) (ch : List VE) (f : Nat) (v : MV), P ρ → J fa ta z → ChI z ch f v → ch.length + dep t ≤ 50 → wfT t → sz t ≤ 300 → z.S.n = k → z.S.m = c → St.length + sz t ≤ 2000 → Bz z (sz t) →
   (∀ ρ' z', P ρ' → J fa ta z' → ZLe z z' → z'.S = (scan t ch f (z.S, z.us)).1 → z'.us = (scan t ch f (z.S, z.us)).2 → R ρ' z' St) → R ρ z (St ++ (xs.map fun e => (e, v)).reverse) := by
 intro t k c xs h
 show SG fa ta P R t k c xs
 induction h with
 | nil =>
  intro ρ z St ch f v p j ci hd hw hs hk hc hl hb k
  have := k ρ z p j ZLe.refl rfl rfl
  simpa using this
 | @use x r k c xs e p l q h1 h2 hr ih =>
  intro ρ z St ch f v pr j ci hd hw hs hk hc hl hb kk
  simp only [szE, depE, wfTE] at hs hd hl hb hw
  refine xe03 hb fun b1 b2 b3 => ?_
  rw [List.map_cons, List.reverse_cons, ← List.append_assoc]
  have tl := topN_le r
  have xl := hr.len
  have sl : (St ++ (xs.map fun e => (e, v)).reverse).length ≤ 2000 := by simp only [List.length_append, List.length_reverse, List.length_map]; lia
  refine hExpr ρ z _ e p l q v _ _ pr h1 h2 ci.hok sl fun ρ' p' => ?_
  refine hName ρ' z _ l q v ch x p' h2 ci.vv ci.hok sl (by lia) fun ρ' p' => ?_
  refine ih ρ' _ St ch f v p' j.us ci.us hd hw (by lia) hk hc (by lia) ⟨by simp only [List.length_append, List.length_singleton]; lia, by show z.S.n + _ ≤ _; lia, by show z.S.m + _ ≤ _; lia⟩ fun ρ' z' p' j' l' e1 e2 => ?_
  exact kk ρ' z' p' j' ⟨l'.m, l'.s⟩ e1 e2
 | @var x y r k c xs a p q t l ql h1 h2 h3 h4 hr ih =>
  intro ρ z St ch f v pr j ci hd hw hs hk hc hl hb kk
  simp only [szE, depE, wfTE] at hs hd hl hb hw
  refine xe03 hb fun b1 b2 b3 => ?_
  rw [List.map_cons, List.reverse_cons, ← List.append_assoc]
  have tl := topN_le r
  have xl := hr.len
  have sl : (St ++ (xs.map fun e => (e, v)).reverse).length ≤ 2000 := by simp only [List.length_append, List.length_reverse, List.length_map]; lia
  refine hVar ρ z _ a p q t l ql v ch x y pr h1 h2 h3 h4 ci.vv ci.hok sl (by lia) fun ρ' p' => ?_
  refine hName ρ' _ _ l ql v ch y p' h4 ci.vv ci.hok sl (by simp only [List.length_append, List.length_singleton]; lia) fun ρ' p' => ?_
  refine ih ρ' _ St ch f v p' j.us ci.us hd hw (by lia) hk hc (by lia) ⟨by simp only [List.length_append, List.length_singleton]; lia, by show z.S.n + _ ≤ _; lia, by show z.S.m + _ ≤ _; lia⟩ fun ρ' z' p' j' l' e1 e2 => ?_
  exact kk ρ' z' p' j' ⟨l'.m, l'.s⟩ e1 e2
 | @tr x i o r k c a p pi po xi xo xs ha h1 h2 h3 hi ho hr ihi iho ihr =>
  intro ρ z St ch f v pr j ci hd hw hs hk hc hl hb kk
  simp only [szE, depE, wfTE] at hs hd hl hb hw
  refine xe03 hb fun b1 b2 b3 => ?_
  refine xe03 hw fun w1 w2 w3 => ?_
  subst hk hc
  rw [List.map_cons, List.reverse_cons, ← List.append_assoc]
  have tl := topN_le r
  have xl := hr.len
  have tl1 := topN_le i
  have xl1 := hi.len
  have tl2 := topN_le o
  have xl2 := ho.len
  refine hTr ρ z _ a p pi po x xi xo ch f v pr j ci (by lia) ha h1 h2 h3 hi.flats ho.flats (by simp only [List.length_append, List.length_reverse, List.length_map]; lia) ⟨by lia, by lia, by lia⟩ (by lia) fun ρ1 z1 s p1 j1 l1 hs1 e1 u1 => ?_
  have n1 : z1.S.n = z.S.n := by rw [e1]; rfl
  have m1 : z1.S.m = z.S.m + 1 := by rw [e1]; rfl
  refine ihi ρ1 z1 _ ch f v p1 j1 (ci.le l1) (by lia) w1 (by lia) n1 m1 (by simp only [List.length_append, List.length_reverse, List.length_map]; lia) ⟨by rw [u1]; lia, by lia, by lia⟩ fun ρ2 z2 p2 j2 l2 e2 u2 => ?_
  refine xe03 (scan_n i ch f (z1.S, z1.us)) fun n2 m2 s2 => ?_
  rw [← e2] at n2 m2
  rw [← u2] at s2
  dsimp only at n2 m2 s2
  have nl := nfnt_le i
  have nl2 := nfnt_le o
  have cs : ChI z2 (.ct z.S.m x :: ch) f (.ref s) := by
   have ci2 := (ci.le l1).le l2
   refine ⟨⟨s, l2.m _ _ hs1, rfl⟩, ⟨by have := l2.s.m; lia, ?_, ?_, ci2.ok⟩, ci.fn, rfl⟩
   ·rw [l2.s.ct _ (by lia), e1, scTr_ct]
   ·rw [l2.s.ct _ (by lia), e1, scTr_ct]
  refine iho ρ2 z2 _ (.ct z.S.m x :: ch) f (.ref s) p2 j2 cs (by rw [List.length_cons]; lia) w2 (by lia) (by lia) (by lia) (by simp only [List.length_append, List.length_reverse, List.length_map]; lia) ⟨by rw [u1] at s2; lia, by lia, by lia⟩ fun ρ3 z3 p3 j3 l3 e3 u3 => ?_
  refine xe03 (scan_n o (.ct z.S.m x :: ch) f (z2.S, z2.us)) fun n3 m3 s3 => ?_
  rw [← e3] at n3 m3
  rw [← u3] at s3
  dsimp only at n3 m3 s3
  have l03 : ZLe z z3 := (l1.trans l2).trans l3
  refine ihr ρ3 z3 St ch f v p3 j3 (ci.le l03) (by lia) w3 (by lia) (by lia) (by lia) (by lia) ⟨by rw [u1] at s2; lia, by lia, by lia⟩ fun ρ4 z4 p4 j4 l4 e4 u4 => ?_
  have q : scan (.tr x i o r) ch f (z.S, z.us) = scan r ch f (z3.S, z3.us) := by
   rw [scanE.2.2.2.1]
   have a1 : scan i ch f (scTr z.S ch f x, z.us) = (z2.S, z2.us) := by rw [e2, u2, e1, u1]
   have a2 : scan o (.ct z.S.m x :: ch) f (z2.S, z2.us) = (z3.S, z3.us) := by rw [e3, u3]
   rw [a1, a2]
  exact kk ρ4 z4 p4 j4 (l03.trans l4) (by rw [q]; exact e4) (by rw [q]; exact u4)
 | @decl x ps st b r k c a p pp pb xb xs ha h1 h2 h3 hb' hr ihb ihr =>
  intro ρ z St ch f v pr j ci hd hw hs hk hc hl hb kk
  rw [List.map_cons, List.reverse_cons, ← List.append_assoc]
  exact scan_fnC hFn (d := true) ha h1 h2 h3 hb' hr ihb ihr pr j ci hd hw hs hk hc hl hb kk
 | @expr x ps st b r k c e pe a p pp pb xb xs h0 ha h1 h2 h3 hb' hr ihb ihr =>
  intro ρ z St ch f v pr j ci hd hw hs hk hc hl hb kk
  rw [List.map_cons, List.reverse_cons, ← List.append_assoc]
  refine hExpr ρ z _ e pe a p v _ _ pr h0 h1 ci.hok ?_ fun ρ pr => scan_fnC hFn (d := false) ha h1 h2 h3 hb' hr ihb ihr pr j ci hd hw hs hk hc hl hb kk
  have tl := topN_le r
  have xl := hr.len
  simp only [List.length_append, List.length_reverse, List.length_map, szE] at *
  lia
end
end
section
noncomputable def TV (σ : Sto) (q : MV × MV) (v : MV) : Prop := ∃ t, v = .ref t ∧ σ t = some (.tuple [q.1, q.2])
theorem TV.mono {σ σ' : Sto} {q : MV × MV} {v : MV} (t : Tup σ σ') (h : TV σ q v) : TV σ' q v := by
 refine xe12 h fun a e h => ?_
 exact ⟨a, e, t _ _ h⟩
theorem pair_loop {P : Loc → Prop} {R : Nat → Loc → Sto → Prop} {σ0 : Sto} {acc : Addr} {es : List MV} {v : MV} (hacc : σ0 acc = none)
  (step : ∀ i e ρ τ ys, P ρ → es[i]? = some e → Sub σ0 τ → τ acc = some (.list ys) → ys.length = i → (∀ ρ' t, P ρ' → τ t = none → R (i + 1) ρ' ((τ.set t (.tuple [e, v])).set acc (.list (ys ++ [.ref t])))) → R i ρ τ)
  (fin : ∀ ρ τ ys, P ρ → Sub σ0 τ → τ acc = some (.list ys) → F2 (TV τ) (es.map fun e => (e, v)) ys → R es.length ρ τ) :
  ∀ ρ, P ρ → R 0 ρ (σ0.set acc (.list [])) := by
 have key : ∀ (k i : Nat) (ρ : Loc) (τ : Sto) (ys : List MV), i + k = es.length → P ρ → Sub σ0 τ → τ acc = some (.list ys) → F2 (TV τ) ((es.take i).map fun e => (e, v)) ys → R i ρ τ := by
  intro k
  induction k with
  | zero =>
   intro i ρ τ ys e p sub ea f
   obtain rfl : i = es.length := by lia
   rw [List.take_length] at f
   exact fin ρ τ ys p sub ea f
  | succ k ih =>
   intro i ρ τ ys e p sub ea f
   have q : es[i]? = some es[i] := List.getElem?_eq_getElem (by lia)
   have fl : ys.length = i := by have := f.1; rw [List.length_map, List.length_take] at this; lia
   refine step i _ ρ τ ys p q sub ea fl fun ρ' t p' ht => ?_
   have tp : Tup τ ((τ.set t (.tuple [es[i], v])).set acc (.list (ys ++ [.ref t]))) := fun z zs e => keep_ne (by rintro rfl; rw [ea] at e; cases e) (keep_new ht e)
   refine ih (i + 1) ρ' _ (ys ++ [.ref t]) (by lia) p' (sub_off (sub.trans (Sub.new ht)) hacc) (Sto.set_self ..) ?_
   rw [List.take_add_one, q, List.map_append]
   refine (f.mono fun U U => TV.mono tp).snoc ⟨t, rfl, keep_ne (by rintro rfl; exact sn (ea.symm.trans ht)) (Sto.set_self ..)⟩
 exact fun ρ p => key es.length 0 ρ _ [] (Nat.zero_add _) p (sub_new hacc) (Sto.set_self ..) F2.nil
structure RS (w : N → Str) (Λ : Sto) (μ0 : Map) (σ0 : Sto) (wa ua : Addr) (σ : Sto) (z : Z) (St : List (MV × MV)) : Prop where
 rep : Rep w Λ z.D z.μ z.S σ
 fr : Fr Λ μ0 σ0 z.μ σ
 wt : ∃ xs, σ wa = some (.list xs) ∧ F2 (TV σ) St xs
 us : ∃ ys, σ ua = some (.list ys) ∧ F2 (UV w z.μ σ) z.us ys
 ow : Off z.μ wa
 ou : Off z.μ ua
structure WU (Λ : Sto) (σ0 : Sto) (wa ua : Addr) : Prop where
 lw : Λ wa = none
 lu : Λ ua = none
 ne : wa ≠ ua
 sw : σ0 wa = none
 su : σ0 ua = none
theorem Fr.tmp {Λ : Sto} {μ0 μ : Map} {σ0 σ : Sto} {wa : Addr} {o : MO} (h : Fr Λ μ0 σ0 μ σ) (hw : σ0 wa = none) (ht : ∀ x, σ wa = some x → isTup x = false) : Fr Λ μ0 σ0 μ (σ.set wa o) :=
 ⟨h.m, fun t xs e => keep_ne (by rintro rfl; have := ht _ (h.t _ _ e); exact tf this) (h.t _ _ e), fun a x q1 q2 q3 => ⟨keep_ne (by rintro rfl; exact nn (hw.symm.trans q3)) (h.k a x q1 q2 q3).1, (h.k a x q1 q2 q3).2⟩⟩
section
variable {w : N → Str} {Λ : Sto} {μ0 : Map} {σ0 : Sto} {wa ua : Addr} {σ σ' : Sto} {z z' : Z} {St : List (MV × MV)} (W : WU Λ σ0 wa ua)
theorem RS.sub (h : RS w Λ μ0 σ0 wa ua σ z St) (s : Sub σ σ') : RS w Λ μ0 σ0 wa ua σ' z St := by
 refine xe12 h.wt fun xs x1 x2 => ?_
 refine xe12 h.us fun ys y1 y2 => ?_
 exact ⟨h.rep.sub s, h.fr.trans (Fr.sub s), ⟨xs, s _ _ x1, x2.mono fun U U => TV.mono s.tup⟩, ⟨ys, s _ _ y1, y2.mono fun U U => UV.mono MSub.refl s.tup⟩, h.ow, h.ou⟩
include W
theorem RS.setW (h : RS w Λ μ0 σ0 wa ua σ z St) {St' : List (MV × MV)} {ys : List MV} (f : F2 (TV σ) St' ys) : RS w Λ μ0 σ0 wa ua (σ.set wa (.list ys)) z St' := by
 refine xe12 h.wt fun xs x1 x2 => ?_
 refine xe12 h.us fun us y1 y2 => ?_
 have nt : ∀ x, σ wa = some x → isTup x = false := fun x e => by obtain rfl := si (x1.symm.trans e); rfl
 have tp : Tup σ (σ.set wa (.list ys)) := Tup.set nt
 exact ⟨h.rep.tmp h.ow W.lw nt, h.fr.tmp W.sw nt, ⟨ys, Sto.set_self .., f.mono fun U U => TV.mono tp⟩, ⟨us, keep_ne (Ne.symm W.ne) y1, y2.mono fun U U => UV.mono MSub.refl tp⟩, h.ow, h.ou⟩
theorem RS.pop {e v : MV} (h : RS w Λ μ0 σ0 wa ua σ z (St ++ [(e, v)])) : ∃ xs t, σ wa = some (.list (xs ++ [.ref t])) ∧ xs.length = St.length ∧ σ t = some (.tuple [e, v]) ∧ RS w Λ μ0 σ0 wa ua (σ.set wa (.list xs)) z St ∧ (σ.set wa (.list xs)) t = some (.tuple [e, v]) := by
 refine xe12 h.wt fun xs x1 x2 => ?_
 obtain ⟨ys, v', rfl, f, t, rfl, et⟩ := x2.split_last
 exact ⟨ys, t, x1, f.1.symm, et, h.setW W f, keep_ne (by rintro rfl; rw [x1] at et; cases et) et⟩
theorem RS.push {L : List (MV × MV)} {ys : List MV} (h : RS w Λ μ0 σ0 wa ua σ z St) (f : F2 (TV σ) L ys) : ∃ xs, σ wa = some (.list xs) ∧ xs.length = St.length ∧ RS w Λ μ0 σ0 wa ua (σ.set wa (.list (xs ++ ys))) z (St ++ L) := by
 refine xe12 h.wt fun xs x1 x2 => ?_
 exact ⟨xs, x1, x2.1.symm, h.setW W (x2.app f)⟩
theorem RS.use {L : Uses} {zs : List MV} (h : RS w Λ μ0 σ0 wa ua σ z St) (f : F2 (UV w z.μ σ) L zs) : ∃ ys, σ ua = some (.list ys) ∧ ys.length = z.us.length ∧ RS w Λ μ0 σ0 wa ua (σ.set ua (.list (ys ++ zs))) ⟨z.D, z.μ, z.S, z.us ++ L⟩ St := by
 refine xe12 h.wt fun xs x1 x2 => ?_
 refine xe12 h.us fun us y1 y2 => ?_
 have nt : ∀ x, σ ua = some x → isTup x = false := fun x e => by obtain rfl := si (y1.symm.trans e); rfl
 have tp : Tup σ (σ.set ua (.list (us ++ zs))) := Tup.set nt
 exact ⟨us, y1, y2.1.symm, h.rep.tmp h.ou W.lu nt, h.fr.tmp W.su nt, ⟨xs, keep_ne W.ne x1, x2.mono fun U U => TV.mono tp⟩, ⟨us ++ zs, Sto.set_self .., (y2.app f).mono fun U U => UV.mono MSub.refl tp⟩, h.ow, h.ou⟩
theorem RS.next (h : RS w Λ μ0 σ0 wa ua σ z St) (rep : Rep w Λ z'.D z'.μ z'.S σ') (fr : Fr Λ z.μ σ z'.μ σ') (hu : z'.us = z.us) : RS w Λ μ0 σ0 wa ua σ' z' St := by
 refine xe12 h.wt fun xs x1 x2 => ?_
 refine xe12 h.us fun us y1 y2 => ?_
 refine xe02 (fr.k _ _ W.lw h.ow x1) fun a1 a2 => ?_
 refine xe02 (fr.k _ _ W.lu h.ou y1) fun b1 b2 => ?_
 exact ⟨rep, h.fr.trans fr, ⟨xs, a1, x2.mono fun U U => TV.mono fr.t⟩, ⟨us, b1, by rw [hu]; exact y2.mono fun U U => UV.mono fr.m fr.t⟩, a2, b2⟩
end
end
section
theorem setL_setL (l : Loc) (x : Str) (v w : MV) : setL (setL l x v) x w = setL l x w := by
 induction l with
 | nil => simp [setL]
 | cons p r ih =>
  obtain ⟨k, u⟩ := p
  by_cases hk : k = x
  ·subst hk; simp [setL]
  ·have : (k == x) = false := beq_eq_false_iff_ne.mpr hk
   simp [setL, this, ih]
theorem On.node_at {Λ σ : Sto} (h : On Λ σ) {a : Addr} {fs : Loc} (e : Λ a = some (.inst 31 fs)) : ∃ fs', σ a = some (.inst 31 fs') ∧ (∀ w, setL fs' "scope" w = setL fs "scope" w) ∧ fs'.length ≤ fs.length + 1 := by
 rcases h a _ e with q | ⟨D, fs0, v, q, q'⟩
 ·exact ⟨fs, q, fun U => rfl, Nat.le_succ _⟩
 ·cases q
  exact ⟨_, q', fun w => setL_setL _ _ _ _, by rw [setL_length]; split <;> lia⟩
theorem sfN_eq (d : Bool) (x : N) (ps : List N) (b : T) : (if (if d = true then (Str.ofString "decl") else Str.ofString "expr") = Str.ofString "expr" ∧ x ∉ bindN ps b then some x else none) = sfN d x ps b := by
 unfold sfN
 cases d with
 | true => rw [if_neg (fun h => absurd h.1 (by decide)), if_neg (fun h => nomatch h.1)]
 | false => simp
theorem newCt_le {S : AS} {ch : List VE} {x : N} : SLe S (newCt S ch x) := ⟨Nat.le_refl _, Nat.le_succ _, fun U U => ⟨rfl, rfl, rfl⟩, fun c hc => by show upd S.ct S.m _ c = _; rw [upd_ne _ _ (by lia)]⟩
theorem newSc_le {S : AS} {ch : List VE} {st ua : Bool} {ps own : List N} {sf : Option N} : SLe S (newSc S ch st ua ps own sf) :=
 ⟨Nat.le_succ _, Nat.le_refl _, fun k hk => by show (upd S.sc S.n _ k).own = _ ∧ (upd S.sc S.n _ k).sf = _ ∧ (upd S.sc S.n _ k).ch = _; rw [upd_ne _ _ (by lia)]; exact ⟨rfl, rfl, rfl⟩, fun U U => rfl⟩
theorem newSc_kids {S : AS} {ch : List VE} {st ua : Bool} {ps own : List N} {sf : Option N} {f : Nat} (h : f < S.n) : ((newSc S ch st ua ps own sf).sc f).kids = (S.sc f).kids := by
 show (upd S.sc S.n _ f).kids = _
 rw [upd_ne _ _ (by lia)]
theorem nd_lt {l : List Addr} (h : l.Nodup) {i j : Nat} {a : Addr} (hi : l[i]? = some a) (hj : l[j]? = some a) (hij : i < j) : False := by
 obtain ⟨h1, e1⟩ := Gs hi
 obtain ⟨h2, e2⟩ := Gs hj
 exact List.pairwise_iff_getElem.mp h i j h1 h2 hij (by rw [e1, e2])
theorem J.freshF {fa ta : List Addr} {z : Z} (j : J fa ta z) (hnd : (fa ++ ta).Nodup) {a : Addr} (ha : fa[z.S.n]? = some a) : ∀ q ∈ z.D, q.1 ≠ a := fun q hq e => by
 refine xe03 (List.nodup_append.mp hnd) fun n1 n2 n3 => ?_
 rcases j.D q hq with ⟨i, h1, h2⟩ | ⟨c, h1, h2⟩
 ·rw [e] at h2; exact nd_lt n1 h2 ha h1
 ·rw [e] at h2; exact n3 _ (List.mem_of_getElem? ha) _ (List.mem_of_getElem? h2) rfl
theorem J.freshT {fa ta : List Addr} {z : Z} (j : J fa ta z) (hnd : (fa ++ ta).Nodup) {a : Addr} (ha : ta[z.S.m]? = some a) : ∀ q ∈ z.D, q.1 ≠ a := fun q hq e => by
 refine xe03 (List.nodup_append.mp hnd) fun n1 n2 n3 => ?_
 rcases j.D q hq with ⟨i, h1, h2⟩ | ⟨c, h1, h2⟩
 ·rw [e] at h2; exact n3 _ (List.mem_of_getElem? h2) _ (List.mem_of_getElem? ha) rfl
 ·rw [e] at h2; exact nd_lt n2 h2 ha h1
theorem cfree_one {x : Str} {c : Addr} {ρ : Loc} {v : MV} (h : ρ.lookup x = some v) : LK (cfree [(x, c)] ρ) x v := by
 have := cfree_lookup (cl := [(x, c)]) (ρ := ρ) (by simp) (x, c) (List.mem_singleton_self _)
 exact this.trans h
section
variable {C : Cx} (hK : PK C) {A : Around} {n : Nat} {σ Λ : Sto} {w : N → Str} (hw : ∀ x y, w x = w y → x = y) (h4 : w 4 = "arguments") {D : List (Addr × Role)} {μ : Map} {S : AS} {fa ta : List Addr}
include hK hw h4
theorem read_names_C (b : Bud A (n + 70)) (rep : Rep w Λ D μ S σ) {a pb : Addr} {fs : Loc} {xs : List MV} {t : T} {k c : Nat} (ha : μ (.sc 0) = some a) (ea : σ a = some (.inst 184 fs)) (lb : LK fs "body" (.ref pb)) (epb : Λ pb = some (.list xs)) (ast : Ast Λ w fa ta t k c xs) (j0 : J fa ta ⟨D, μ, S, []⟩)
  (hSn : S.n = k) (hSm : S.m = c) (hk0 : 0 < k) (hk : k ≤ 10) (hc : c ≤ 10) (ok0 : (S.sc 0).own = [] ∧ (S.sc 0).sf = none ∧ (S.sc 0).ch = []) (hd : dep t ≤ 20) (hwf : wfT t) (hsz : sz t ≤ 300) (hnd : (fa ++ ta).Nodup) {Q : MV → Sto → Prop}
  (h : ∀ d ys z' σ', Rep w Λ z'.D z'.μ z'.S σ' → J fa ta z' → z'.S = (scan t [.sc 0 [] none] 0 (S, [])).1 → z'.us = (scan t [.sc 0 [] none] 0 (S, [])).2 → Fr Λ μ σ z'.μ σ' → σ' d = some (.list ys) → F2 (UV w z'.μ σ') z'.us ys → Off z'.μ d → Λ d = none → SLe S z'.S → Q (.ref d) σ') : CALLC C A (.ref 256) [.ref a] σ Q := by
 have fx := ast.flats
 have hxl := ast.len
 have htn := topN_le t
 refine runFn hK (f := 256) ["root"] (fun U => rfl) (fun U => rfl) rfl rfl (ar1 fun U => rfl) rfl rfl b fun FF e1 e2 hK b' => ?_
 subst e1 e2
 walk_at "S"
 refine ⟨by simp, fun ua hua => ?_⟩
 walk_at "S"
 walk_at "a"
 walk_at "S"
 refine GET_own (keep_new hua ea) lb (OA_scope hK (by decide)) ?_
 walk_at "S"
 refine (nodes_of_C hK (n := n) (b'.mono (by lia)) (rep.on.new hua) (Flats.sing (.list epb) fx) (by lia) fun d hd => ?_).call
 walk_at "S"
 refine SLC_rev (xs := xs) (Sto.set_self ..) (by lia) fun d2 hd2 => ?_
 refine ITR_list (Sto.set_self ..) ⟨rfl, fun wa L2 hacc => ?_⟩
 have s1 : Sub σ (((σ.set ua (.list [])).set d (.list xs)).set d2 (.list xs.reverse)) := ((Sub.new hua).trans (Sub.new hd)).trans (Sub.new hd2)
 have eua : (((σ.set ua (.list [])).set d (.list xs)).set d2 (.list xs.reverse)) ua = some (.list []) := keep_new hd2 (keep_new hd (Sto.set_self ..))
 have ed2 : (((σ.set ua (.list [])).set d (.list xs)).set d2 (.list xs.reverse)) d2 = some (.list xs.reverse) := Sto.set_self ..
 generalize (((σ.set ua (.list [])).set d (.list xs)).set d2 (.list xs.reverse)) = σ1 at s1 eua ed2 hacc ⊢
 refine pair_loop (P := fun ρ => LK ρ "root" (.ref a)) (es := xs.reverse) (v := .ref a) (acc := wa) (R := fun i ρ τ => RC _ _ _ _ _ _ _ _ wa (.list d2 i) (FF.at_ _) ρ τ) hacc ?_ ?_ _ (by rfl)
 ·intro i e ρ τ ys p hi sub eacc hl k
  refine rCL b'.h (sub _ _ ed2) (fun v' hv' => ?_) (fun hn => by exact sn (hi.symm.trans hn))
  obtain rfl := si (hi.symm.trans hv')
  walk_at "a"
  walk_at "S"
  refine ⟨by simp, fun t ht => ?_⟩
  have hlt := (Gs hi).1
  rw [List.length_reverse] at hlt
  exact ⟨ys, keep_new ht eacc, by lia, k _ t (p.set (by walk_at "f")) ht⟩
 intro ρ τ ys p sub eacc ftv
 refine rCL b'.h (sub _ _ ed2) (fun v' hv' => by exact nn ((List.getElem?_eq_none (Nat.le_refl _)).symm.trans hv')) (fun hn => ⟨fun q hq => ?_, ?_⟩)
 ·rw [List.mem_singleton] at hq
  subst hq
  rw [show List.lookup (Str.ofString "root") ρ = some (.ref a) from p]; rfl
 have swa : σ wa = none := by
  cases q : σ wa with
  | none => rfl
  | some o => have := s1 _ _ q; exact nn (hacc.symm.trans this)
 have wne : wa ≠ ua := by rintro rfl; exact sn (eua.symm.trans hacc)
 have W : WU Λ σ wa ua := ⟨rep.fresh swa, rep.fresh hua, wne, swa, hua⟩
 have rs0 : RS w Λ μ σ wa ua τ ⟨D, μ, S, []⟩ ([] ++ (xs.map fun e => (e, MV.ref a)).reverse) := by
  refine ⟨(rep.sub s1).sub sub, (Fr.sub s1).trans (Fr.sub sub), ⟨ys, eacc, ?_⟩, ⟨[], sub _ _ eua, F2.nil⟩, Off.new rep W.sw, Off.new rep hua⟩
  rw [List.nil_append, ← List.map_reverse]; exact ftv
 clear ftv eacc p ρ ys ed2
 have ci : ChI ⟨D, μ, S, []⟩ [.sc 0 [] none] 0 (.ref a) := ⟨⟨a, ha, rfl⟩, ⟨by show 0 < S.n; lia, ok0.1, ok0.2.1, ok0.2.2, trivial⟩, rfl, rfl⟩
 walk_at "S"
 refine scan_loop (P := fun ρ => LK ρ "waiting" (.ref wa) ∧ LK ρ "uses" (.ref ua)) (R := fun ρ z St => ∀ σ', RS w Λ μ σ wa ua σ' z St → RW _ _ _ _ _ FF ρ σ') ?_ ?_ ?_ ?_ ?_ ast _ ⟨D, μ, S, []⟩ [] [.sc 0 [] none] 0 (.ref a) ⟨by rfl, by rfl⟩ j0 ci (by rw [List.length_singleton]; lia) hwf hsz hSn hSm (by rw [List.length_nil]; lia) ⟨by rw [List.length_nil]; lia, by show S.n + _ ≤ _; lia, by show S.m + _ ≤ _; lia⟩ ?_ τ rs0
 ·intro ρ z St e p l q v kd ps ⟨p1, p2⟩ h1 h2 hok hl k0 σ1 rs
  refine rWh ?_
  walk_at "S"
  refine xe25 (rs.pop W) fun xs1 t1 x1 x2 et rs1 et1 => ?_
  refine CALL_len_list x1 (by rw [List.length_append, List.length_singleton]; lia) ?_
  walk_at "S"
  refine if_b (fun U => ?_) (fun hc => by simp at hc)
  walk_at "a"
  walk_at "S"
  refine METH_pop x1 ?_
  walk_at "S"
  refine CALL_pop x1 (by lia) ?_
  refine rAT b'.h et1 ?_ (by walk_at "=i") (by walk_at "=o")
  walk_at "a"
  walk_at "a"
  walk_at "a"
  have wx : (σ1.set wa (.list xs1)) wa = some (.list xs1) := Sto.set_self ..
  generalize σ1.set wa (.list xs1) = σ2 at rs1 et1 wx ⊢
  walk_at "S"
  refine GET_kind hK h1 rs1.rep.on ?_
  walk_at "S"
  refine GET_kind hK h1 rs1.rep.on ?_
  walk_at "S"
  refine GET_kind hK h1 rs1.rep.on ?_
  walk_at "S"
  refine GET_kind hK h1 rs1.rep.on ?_
  walk_at "S"
  refine METH_extend wx ?_
  walk_at "S"
  walk_at "a"
  walk_at "S"
  refine (inner_nodes_C hK (n := n) (b'.mono (by lia)) rs1.rep.on h1 (h1.parts1 h2) (by lia) fun d3 hd3 => ?_).call
  walk_at "S"
  refine SLC_rev (xs := [MV.ref l]) (Sto.set_self ..) (by (try simp only [List.length_append, List.length_cons, List.length_nil]); lia) fun d4 hd4 => ?_
  refine ITR_list (Sto.set_self ..) ⟨rfl, fun acc L3 hacc3 => ?_⟩
  have ss : Sub σ2 ((σ2.set d3 (.list ([MV.ref l]))).set d4 (.list ([MV.ref l]).reverse)) := (Sub.new hd3).trans (Sub.new hd4)
  have ed4 : ((σ2.set d3 (.list ([MV.ref l]))).set d4 (.list ([MV.ref l]).reverse)) d4 = some (.list ([MV.ref l]).reverse) := Sto.set_self ..
  generalize ((σ2.set d3 (.list ([MV.ref l]))).set d4 (.list ([MV.ref l]).reverse)) = σb at ss ed4 hacc3 ⊢
  refine pair_loop (P := fun ρ' => LK ρ' "view" v) (es := ([MV.ref l]).reverse) (v := v) (acc := acc) (R := fun i ρ' τ => RC _ _ _ _ _ _ _ _ acc (.list d4 i) (FF.at_ _) ρ' τ) hacc3 ?_ ?_ _ (cfree_one (look_eq : List.lookup (Str.ofString "view") (setL (setL ρ "node" (.ref e)) "view" v) = some v))
  ·intro i e' ρ' τ ys p' hi sub eacc hl k
   refine rCL b'.h (sub _ _ ed4) (fun v' hv' => ?_) (fun hn => by exact sn (hi.symm.trans hn))
   obtain rfl := si (hi.symm.trans hv')
   walk_at "a"
   walk_at "S"
   refine ⟨by simp, fun t ht => ?_⟩
   have hlt := (Gs hi).1
   (try simp only [List.length_reverse, List.length_append, List.length_cons, List.length_nil] at hlt)
   exact ⟨ys, keep_new ht eacc, by lia, k _ t (p'.set (by walk_at "f")) ht⟩
  intro ρ' τ ys p' sub eacc ftv
  refine rCL b'.h (sub _ _ ed4) (fun v' hv' => by exact nn ((List.getElem?_eq_none (Nat.le_refl _)).symm.trans hv')) (fun hn => ⟨fun q hq => ?_, ?_⟩)
  ·rw [List.mem_singleton] at hq
   subst hq
   exact p'.trans (look_eq : List.lookup (Str.ofString "view") (setL (setL ρ "node" (.ref e)) "view" v) = some v).symm
  have yl : ys.length = ([MV.ref l]).length := by have := ftv.1; rw [List.length_map, List.length_reverse] at this; exact this.symm
  (try simp only [List.length_append, List.length_cons, List.length_nil] at yl)
  have sT := ss.trans sub
  refine xe13 ((rs1.sub sT).push W ftv) fun xs2 w1 w2 rs3 => ?_
  have wlx : xs2.length = St.length := w2
  walk_at "S"
  refine CALL_extend w1 eacc (by (try simp only [List.length_append, List.length_reverse, List.length_map] at wlx); lia) (by lia) ?_
  walk_at "S"
  refine k0 _ ⟨(p1.set (by walk_at "f")).set (by walk_at "f"), (p2.set (by walk_at "f")).set (by walk_at "f")⟩ _ ?_
  rw [List.reverse_singleton, List.map_singleton] at rs3
  exact rs3
 ·intro ρ z St l q v ch x ⟨p1, p2⟩ h1 hvv hok hl hul k0 σ1 rs
  refine rWh ?_
  walk_at "S"
  refine xe25 (rs.pop W) fun xs1 t1 x1 x2 et rs1 et1 => ?_
  refine CALL_len_list x1 (by rw [List.length_append, List.length_singleton]; lia) ?_
  walk_at "S"
  refine if_b (fun U => ?_) (fun hc => by simp at hc)
  walk_at "a"
  walk_at "S"
  refine METH_pop x1 ?_
  walk_at "S"
  refine CALL_pop x1 (by lia) ?_
  refine rAT b'.h et1 ?_ (by walk_at "=i") (by walk_at "=o")
  walk_at "a"
  walk_at "a"
  walk_at "a"
  have wx : (σ1.set wa (.list xs1)) wa = some (.list xs1) := Sto.set_self ..
  generalize σ1.set wa (.list xs1) = σ2 at rs1 et1 wx ⊢
  walk_at "S"
  refine GET_kind hK h1 rs1.rep.on ?_
  walk_at "S"
  obtain ⟨us0, e0, -⟩ := rs1.us
  refine METH_append e0 ?_
  walk_at "S"
  refine GET_parts hK h1 rs1.rep.on ?_
  walk_at "S"
  refine SUB_list (rs1.rep.on.list h1.ps) (by decide) (by decide) rfl ?_
  walk_at "S"
  refine ⟨by simp, fun t3 ht3 => ?_⟩
  walk_at "S"
  refine xe13 ((rs1.sub (Sub.new (o := .tuple [v, .str (w x)]) ht3)).use W (L := [(ch, x)]) (zs := [.ref t3]) (F2.nil.cons ⟨t3, v, rfl, Sto.set_self .., hvv⟩)) fun us u1 u2 rs2 => ?_
  refine CALL_append u1 (by lia) ?_
  generalize (σ2.set t3 (.tuple [v, .str (w x)])).set ua (.list (us ++ [.ref t3])) = σ3 at rs2 ⊢
  obtain ⟨xq, wx3, -⟩ := rs2.wt
  walk_at "S"
  refine GET_kind hK h1 rs2.rep.on ?_
  walk_at "S"
  refine GET_kind hK h1 rs2.rep.on ?_
  walk_at "S"
  refine METH_extend wx3 ?_
  walk_at "S"
  walk_at "a"
  walk_at "S"
  refine (inner_nodes_C hK (n := n) (b'.mono (by lia)) rs2.rep.on h1 (L := []) (Flats.sing (.list h1.ps) (.str (w x) .nil)) (by lia) fun d3 hd3 => ?_).call
  walk_at "S"
  refine SLC_rev (xs := ([] : List MV)) (Sto.set_self ..) (by (try simp only [List.length_append, List.length_cons, List.length_nil]); lia) fun d4 hd4 => ?_
  refine ITR_list (Sto.set_self ..) ⟨rfl, fun acc L3 hacc3 => ?_⟩
  have ss : Sub σ3 ((σ3.set d3 (.list (([] : List MV)))).set d4 (.list (([] : List MV)).reverse)) := (Sub.new hd3).trans (Sub.new hd4)
  have ed4 : ((σ3.set d3 (.list (([] : List MV)))).set d4 (.list (([] : List MV)).reverse)) d4 = some (.list (([] : List MV)).reverse) := Sto.set_self ..
  generalize ((σ3.set d3 (.list (([] : List MV)))).set d4 (.list (([] : List MV)).reverse)) = σb at ss ed4 hacc3 ⊢
  refine pair_loop (P := fun ρ' => LK ρ' "view" v) (es := (([] : List MV)).reverse) (v := v) (acc := acc) (R := fun i ρ' τ => RC _ _ _ _ _ _ _ _ acc (.list d4 i) (FF.at_ _) ρ' τ) hacc3 ?_ ?_ _ (cfree_one (look_eq : List.lookup (Str.ofString "view") (setL (setL ρ "node" (.ref l)) "view" v) = some v))
  ·intro i e' ρ' τ ys p' hi sub eacc hl k
   refine rCL b'.h (sub _ _ ed4) (fun v' hv' => ?_) (fun hn => by exact sn (hi.symm.trans hn))
   obtain rfl := si (hi.symm.trans hv')
   walk_at "a"
   walk_at "S"
   refine ⟨by simp, fun t ht => ?_⟩
   have hlt := (Gs hi).1
   (try simp only [List.length_reverse, List.length_append, List.length_cons, List.length_nil] at hlt)
   exact ⟨ys, keep_new ht eacc, by lia, k _ t (p'.set (by walk_at "f")) ht⟩
  intro ρ' τ ys p' sub eacc ftv
  refine rCL b'.h (sub _ _ ed4) (fun v' hv' => by exact nn ((List.getElem?_eq_none (Nat.le_refl _)).symm.trans hv')) (fun hn => ⟨fun q hq => ?_, ?_⟩)
  ·rw [List.mem_singleton] at hq
   subst hq
   exact p'.trans (look_eq : List.lookup (Str.ofString "view") (setL (setL ρ "node" (.ref l)) "view" v) = some v).symm
  have yl : ys.length = (([] : List MV)).length := by have := ftv.1; rw [List.length_map, List.length_reverse] at this; exact this.symm
  (try simp only [List.length_append, List.length_cons, List.length_nil] at yl)
  have sT := ss.trans sub
  refine xe13 ((rs2.sub sT).push W ftv) fun xs2 w1 w2 rs3 => ?_
  have wlx : xs2.length = St.length := w2
  walk_at "S"
  refine CALL_extend w1 eacc (by (try simp only [List.length_append, List.length_reverse, List.length_map] at wlx); lia) (by lia) ?_
  walk_at "S"
  refine k0 _ ⟨(p1.set (by walk_at "f")).set (by walk_at "f"), (p2.set (by walk_at "f")).set (by walk_at "f")⟩ _ ?_
  rw [List.reverse_nil, List.map_nil, List.append_nil] at rs3
  exact rs3
 ·intro ρ z St a' p q tt l ql v ch x y ⟨p1, p2⟩ h1 h2 h3 h4' hvv hok hl hul k0 σ1 rs
  refine rWh ?_
  walk_at "S"
  refine xe25 (rs.pop W) fun xs1 t1 x1 x2 et rs1 et1 => ?_
  refine CALL_len_list x1 (by rw [List.length_append, List.length_singleton]; lia) ?_
  walk_at "S"
  refine if_b (fun U => ?_) (fun hc => by simp at hc)
  walk_at "a"
  walk_at "S"
  refine METH_pop x1 ?_
  walk_at "S"
  refine CALL_pop x1 (by lia) ?_
  refine rAT b'.h et1 ?_ (by walk_at "=i") (by walk_at "=o")
  walk_at "a"
  walk_at "a"
  walk_at "a"
  have wx : (σ1.set wa (.list xs1)) wa = some (.list xs1) := Sto.set_self ..
  generalize σ1.set wa (.list xs1) = σ2 at rs1 et1 wx ⊢
  walk_at "S"
  refine GET_kind hK h1 rs1.rep.on ?_
  walk_at "S"
  refine GET_kind hK h1 rs1.rep.on ?_
  walk_at "S"
  obtain ⟨us0, e0, -⟩ := rs1.us
  refine METH_extend e0 ?_
  walk_at "S"
  walk_at "a"
  walk_at "S"
  refine GET_parts hK h1 rs1.rep.on ?_
  walk_at "S"
  refine SUB_list (rs1.rep.on.list h1.ps) (by decide) (by decide) rfl ?_
  refine ITR_list (rs1.rep.on.list h2) ⟨rfl, fun acc L3 hacc => ?_⟩
  have pv := cfree_one (c := FF.L + 2) (look_eq : List.lookup (Str.ofString "view") (setL (setL ρ "node" (.ref a')) "view" v) = some v)
  have rsa := rs1.sub (Sub.new (o := .list []) hacc)
  refine rCL b'.h (rsa.rep.on.list h2) (fun v' hv' => ?_) (fun hn => by exact sn hn)
  obtain rfl := si hv'
  refine rAT b'.h (rsa.rep.on.tuple h3) ?_ (by walk_at "=i") (by walk_at "=o")
  walk_at "a"
  walk_at "a"
  walk_at "a"
  walk_at "S"
  refine ⟨by simp, fun t3 ht3 => ?_⟩
  have e5 : ((σ2.set acc (.list [])).set t3 (.tuple [v, .str (w x)])) acc = some (.list []) := keep_new ht3 (Sto.set_self ..)
  refine ⟨[], e5, by simp, ?_⟩
  have rsb := (rsa.sub (Sub.new (o := .tuple [v, .str (w x)]) ht3))
  have sT : Sub σ2 (((σ2.set acc (.list [])).set t3 (.tuple [v, .str (w x)])).set acc (.list ([] ++ [.ref t3]))) := sub_off ((Sub.new hacc).trans (Sub.new ht3)) hacc
  have rsc := rs1.sub sT
  have e6 : (((σ2.set acc (.list [])).set t3 (.tuple [v, .str (w x)])).set acc (.list ([] ++ [.ref t3]))) acc = some (.list [.ref t3]) := Sto.set_self ..
  have e7 : (((σ2.set acc (.list [])).set t3 (.tuple [v, .str (w x)])).set acc (.list ([] ++ [.ref t3]))) t3 = some (.tuple [v, .str (w x)]) := keep_ne (by rintro rfl; rw [Sto.set_self] at ht3; exact sn ht3) (Sto.set_self ..)
  generalize (((σ2.set acc (.list [])).set t3 (.tuple [v, .str (w x)])).set acc (.list ([] ++ [.ref t3]))) = σ4 at rsc e6 e7 ⊢
  refine rCL b'.h (rsc.rep.on.list h2) (fun v' hv' => by exact nn hv') (fun hn => ⟨fun q hq => ?_, ?_⟩)
  ·rw [List.mem_singleton] at hq
   subst hq
   exact (look_ne (by walk_at "f") (look_ne (by walk_at "f") pv)).trans ((look_eq : List.lookup (Str.ofString "view") (setL (setL ρ "node" (.ref a')) "view" v) = some v)).symm
  walk_at "S"
  refine xe13 (rsc.use W (L := [(ch, x)]) (zs := [.ref t3]) (F2.nil.cons ⟨t3, v, rfl, e7, hvv⟩)) fun us u1 u2 rs2 => ?_
  refine CALL_extend u1 e6 (by lia) (by simp) ?_
  generalize σ4.set ua (.list (us ++ [.ref t3])) = σ3 at rs2 ⊢
  obtain ⟨xq, wx3, -⟩ := rs2.wt
  walk_at "S"
  refine GET_kind hK h1 rs2.rep.on ?_
  walk_at "S"
  refine GET_kind hK h1 rs2.rep.on ?_
  walk_at "S"
  refine METH_extend wx3 ?_
  walk_at "S"
  walk_at "a"
  walk_at "S"
  refine (inner_nodes_C hK (n := n) (b'.mono (by lia)) rs2.rep.on h1 (var_flat h1 h2 h3 h4') (by lia) fun d3 hd3 => ?_).call
  walk_at "S"
  refine SLC_rev (xs := [MV.ref l]) (Sto.set_self ..) (by (try simp only [List.length_append, List.length_cons, List.length_nil]); lia) fun d4 hd4 => ?_
  refine ITR_list (Sto.set_self ..) ⟨rfl, fun acc L3 hacc3 => ?_⟩
  have ss : Sub σ3 ((σ3.set d3 (.list ([MV.ref l]))).set d4 (.list ([MV.ref l]).reverse)) := (Sub.new hd3).trans (Sub.new hd4)
  have ed4 : ((σ3.set d3 (.list ([MV.ref l]))).set d4 (.list ([MV.ref l]).reverse)) d4 = some (.list ([MV.ref l]).reverse) := Sto.set_self ..
  generalize ((σ3.set d3 (.list ([MV.ref l]))).set d4 (.list ([MV.ref l]).reverse)) = σb at ss ed4 hacc3 ⊢
  refine pair_loop (P := fun ρ' => LK ρ' "view" v) (es := ([MV.ref l]).reverse) (v := v) (acc := acc) (R := fun i ρ' τ => RC _ _ _ _ _ _ _ _ acc (.list d4 i) (FF.at_ _) ρ' τ) hacc3 ?_ ?_ _ (cfree_one (look_eq : List.lookup (Str.ofString "view") (setL (setL ρ "node" (.ref a')) "view" v) = some v))
  ·intro i e' ρ' τ ys p' hi sub eacc hl k
   refine rCL b'.h (sub _ _ ed4) (fun v' hv' => ?_) (fun hn => by exact sn (hi.symm.trans hn))
   obtain rfl := si (hi.symm.trans hv')
   walk_at "a"
   walk_at "S"
   refine ⟨by simp, fun t ht => ?_⟩
   have hlt := (Gs hi).1
   (try simp only [List.length_reverse, List.length_append, List.length_cons, List.length_nil] at hlt)
   exact ⟨ys, keep_new ht eacc, by lia, k _ t (p'.set (by walk_at "f")) ht⟩
  intro ρ' τ ys p' sub eacc ftv
  refine rCL b'.h (sub _ _ ed4) (fun v' hv' => by exact nn ((List.getElem?_eq_none (Nat.le_refl _)).symm.trans hv')) (fun hn => ⟨fun q hq => ?_, ?_⟩)
  ·rw [List.mem_singleton] at hq
   subst hq
   exact p'.trans (look_eq : List.lookup (Str.ofString "view") (setL (setL ρ "node" (.ref a')) "view" v) = some v).symm
  have yl : ys.length = ([MV.ref l]).length := by have := ftv.1; rw [List.length_map, List.length_reverse] at this; exact this.symm
  (try simp only [List.length_append, List.length_cons, List.length_nil] at yl)
  have sT := ss.trans sub
  refine xe13 ((rs2.sub sT).push W ftv) fun xs2 w1 w2 rs3 => ?_
  have wlx : xs2.length = St.length := w2
  walk_at "S"
  refine CALL_extend w1 eacc (by (try simp only [List.length_append, List.length_reverse, List.length_map] at wlx); lia) (by lia) ?_
  walk_at "S"
  refine k0 _ ⟨(p1.set (by walk_at "f")).set (by walk_at "f"), (p2.set (by walk_at "f")).set (by walk_at "f")⟩ _ ?_
  rw [List.reverse_singleton, List.map_singleton] at rs3
  exact rs3
 ·intro ρ z St a' p pi po x xi xo ch f v ⟨p1, p2⟩ jj ci hcl hta h1 h2 h3 hfi hfo hl hbz hxl k0 σ1 rs
  refine xe03 hbz fun bz1 bz2 bz3 => ?_
  refine rWh ?_
  walk_at "S"
  refine xe25 (rs.pop W) fun xs1 t1 x1 x2 et rs1 et1 => ?_
  refine CALL_len_list x1 (by rw [List.length_append, List.length_singleton]; lia) ?_
  walk_at "S"
  refine if_b (fun U => ?_) (fun hc => by simp at hc)
  walk_at "a"
  walk_at "S"
  refine METH_pop x1 ?_
  walk_at "S"
  refine CALL_pop x1 (by lia) ?_
  refine rAT b'.h et1 ?_ (by walk_at "=i") (by walk_at "=o")
  walk_at "a"
  walk_at "a"
  walk_at "a"
  have wx : (σ1.set wa (.list xs1)) wa = some (.list xs1) := Sto.set_self ..
  generalize σ1.set wa (.list xs1) = σ2 at rs1 et1 wx ⊢
  walk_at "S"
  refine GET_kind hK h1 rs1.rep.on ?_
  walk_at "S"
  refine GET_kind hK h1 rs1.rep.on ?_
  walk_at "S"
  refine GET_kind hK h1 rs1.rep.on ?_
  walk_at "S"
  refine GET_kind hK h1 rs1.rep.on ?_
  walk_at "S"
  refine GET_parts hK h1 rs1.rep.on ?_
  walk_at "S"
  refine SUB_list (rs1.rep.on.list h1.ps) (by decide) (by decide) rfl ?_
  walk_at "S"
  refine if_t ?_
  walk_at "S"
  refine Catch_new hK (n := n) (b'.mono (by lia)) rs1.rep h1 ci.vv ci.hok (jj.cap _) (jj.pl _) fun s μ' σ3 q1 q2 q3 q4 => ?_
  walk_at "S"
  obtain ⟨f0, e0, -, -, hf4⟩ := h1.at_
  refine xe13 (q2.on.node_at e0) fun f1 e1 hs1 hl1 => ?_
  refine SETA_own e1 (by lia) rfl (OS_node hK (by decide)) ?_
  have rep4 := q2.node (r := .ct z.S.m) e0 e1 (jj.freshT hnd hta) ⟨s, q1, rfl⟩ hs1
  have fr4 := q3.trans (Fr.node (Λ := Λ) (μ := μ') (o := .inst 31 (setL f1 "scope" (.ref s))) (ns e0) e1 rfl)
  generalize σ3.set a' (.inst 31 (setL f1 "scope" (.ref s))) = σ4 at rep4 fr4 ⊢
  walk_at "S"
  refine xe11 (jj.lf f (fnV_lt ci.ok ci.fn)) fun af haf => ?_
  refine FUNC hK (n := n) rep4 (q3.m _ _ haf) ?_ (b'.mono (by lia)) (ci.ok.le newCt_le) (ci.vv.mono q3.m) ci.fn
  walk_at "S"
  refine GET_self hK rep4 (q3.m _ _ haf) (P := RV μ' (.cats f)) (by decide) (fun fs g => by refine xe12 g.cats fun a e q => ?_; exact ⟨_, e, a, q, rfl⟩) ?_
  rintro _ ⟨cc, hcc, rfl⟩
  obtain ⟨_, ecc, cs, rfl, hcs⟩ := rep4.at_ _ _ hcc
  have hcl' := hcs.1
  have hkk := (jj.kids f).2
  refine METH_append ecc ?_
  walk_at "S"
  refine CALL_append ecc (by have : (z.S.sc f).cats.length = cs.length := hcl'; lia) ?_
  have rep5 : Rep w Λ ((a', .ct z.S.m) :: z.D) μ' (scTr z.S ch f x) (σ4.set cc (.list (cs ++ [.ref s]))) := rep4.set hcc rfl rfl (fun tp => ⟨_, rfl, by unfold scTr catAdd; rw [setSc_self]; exact hcs.snoc ⟨s, q1, rfl⟩⟩) fun r' o' hr => Good.updSc hr cmp_cats
  have fr5 := fr4.trans (Fr.set (o := .list (cs ++ [.ref s])) hcc (rep4.nt hcc))
  generalize σ4.set cc (.list (cs ++ [.ref s])) = σ5 at rep5 fr5 ⊢
  have jz := jj.tr (ch := ch) (f := f) (x := x) hta q3.m q1
  have rs5 : RS w Λ μ σ wa ua σ5 ⟨(a', .ct z.S.m) :: z.D, μ', scTr z.S ch f x, z.us⟩ St := rs1.next W rep5 fr5 rfl
  obtain ⟨xq, wx5, -⟩ := rs5.wt
  walk_at "S"
  refine METH_extend wx5 ?_
  walk_at "S"
  walk_at "a"
  walk_at "S"
  refine GET_parts hK h1 rs5.rep.on ?_
  walk_at "S"
  refine SUB_list (rs5.rep.on.list h1.ps) (by decide) (by decide) rfl ?_
  walk_at "S"
  refine (nodes_of_C hK (n := n) (b'.mono (by lia)) rs5.rep.on (Flats.skip (.oth (.inl rfl)) .nil : Flat Λ .none [] 1) (by lia) fun d3 hd3 => ?_).call
  walk_at "S"
  refine SLC_rev (xs := ([] : List MV)) (Sto.set_self ..) (by (try simp only [List.length_append, List.length_cons, List.length_nil]); lia) fun d4 hd4 => ?_
  refine ITR_list (Sto.set_self ..) ⟨rfl, fun acc L3 hacc3 => ?_⟩
  have ss : Sub σ5 ((σ5.set d3 (.list (([] : List MV)))).set d4 (.list (([] : List MV)).reverse)) := (Sub.new hd3).trans (Sub.new hd4)
  have ed4 : ((σ5.set d3 (.list (([] : List MV)))).set d4 (.list (([] : List MV)).reverse)) d4 = some (.list (([] : List MV)).reverse) := Sto.set_self ..
  generalize ((σ5.set d3 (.list (([] : List MV)))).set d4 (.list (([] : List MV)).reverse)) = σb at ss ed4 hacc3 ⊢
  refine pair_loop (P := fun ρ' => LK ρ' "view" v) (es := (([] : List MV)).reverse) (v := v) (acc := acc) (R := fun i ρ' τ => RC _ _ _ _ _ _ _ _ acc (.list d4 i) (FF.at_ _) ρ' τ) hacc3 ?_ ?_ _ (cfree_one (look_ne (by walk_at "f") look_eq : List.lookup (Str.ofString "view") (setL (setL (setL ρ "node" (.ref a')) "view" v) "caught" (.ref s)) = some v))
  ·intro i e' ρ' τ ys p' hi sub eacc hl k
   refine rCL b'.h (sub _ _ ed4) (fun v' hv' => ?_) (fun hn => by exact sn (hi.symm.trans hn))
   obtain rfl := si (hi.symm.trans hv')
   walk_at "a"
   walk_at "S"
   refine ⟨by simp, fun t ht => ?_⟩
   have hlt := (Gs hi).1
   (try simp only [List.length_reverse, List.length_append, List.length_cons, List.length_nil] at hlt)
   exact ⟨ys, keep_new ht eacc, by lia, k _ t (p'.set (by walk_at "f")) ht⟩
  intro ρ' τ ys p' sub eacc ftv
  refine rCL b'.h (sub _ _ ed4) (fun v' hv' => by exact nn ((List.getElem?_eq_none (Nat.le_refl _)).symm.trans hv')) (fun hn => ⟨fun q hq => ?_, ?_⟩)
  ·rw [List.mem_singleton] at hq
   subst hq
   exact p'.trans (look_ne (by walk_at "f") look_eq : List.lookup (Str.ofString "view") (setL (setL (setL ρ "node" (.ref a')) "view" v) "caught" (.ref s)) = some v).symm
  have yl : ys.length = (([] : List MV)).length := by have := ftv.1; rw [List.length_map, List.length_reverse] at this; exact this.symm
  (try simp only [List.length_append, List.length_cons, List.length_nil] at yl)
  have sT := ss.trans sub
  refine xe13 ((rs5.sub sT).push W ftv) fun xs2 w1 w2 rs6 => ?_
  have wlx : xs2.length = St.length := w2
  walk_at "S"
  refine CALL_extend w1 eacc (by (try simp only [List.length_append, List.length_reverse, List.length_map] at wlx); lia) (by lia) ?_
  walk_at "S"
  rw [List.reverse_nil, List.map_nil, List.append_nil] at rs6
  generalize τ.set wa (.list (xs2 ++ ys)) = σ6 at rs6 ⊢
  obtain ⟨xq, wx6, -⟩ := rs6.wt
  walk_at "S"
  refine METH_extend wx6 ?_
  walk_at "S"
  walk_at "a"
  walk_at "S"
  refine GET_parts hK h1 rs6.rep.on ?_
  walk_at "S"
  refine SUB_list (rs6.rep.on.list h1.ps) (by decide) (by decide) rfl ?_
  walk_at "S"
  refine (nodes_of_C hK (n := n) (b'.mono (by lia)) rs6.rep.on (Flats.sing (.list h3) hfo) (by lia) fun d3 hd3 => ?_).call
  walk_at "S"
  refine SLC_rev (xs := xo) (Sto.set_self ..) (by (try simp only [List.length_append, List.length_cons, List.length_nil]); lia) fun d4 hd4 => ?_
  refine ITR_list (Sto.set_self ..) ⟨rfl, fun acc L3 hacc3 => ?_⟩
  have ss : Sub σ6 ((σ6.set d3 (.list (xo))).set d4 (.list (xo).reverse)) := (Sub.new hd3).trans (Sub.new hd4)
  have ed4 : ((σ6.set d3 (.list (xo))).set d4 (.list (xo).reverse)) d4 = some (.list (xo).reverse) := Sto.set_self ..
  generalize ((σ6.set d3 (.list (xo))).set d4 (.list (xo).reverse)) = σb at ss ed4 hacc3 ⊢
  refine pair_loop (P := fun ρ' => LK ρ' "caught" (MV.ref s)) (es := (xo).reverse) (v := (MV.ref s)) (acc := acc) (R := fun i ρ' τ => RC _ _ _ _ _ _ _ _ acc (.list d4 i) (FF.at_ _) ρ' τ) hacc3 ?_ ?_ _ (cfree_one (look_eq : List.lookup (Str.ofString "caught") (setL (setL (setL ρ "node" (.ref a')) "view" v) "caught" (.ref s)) = some (.ref s)))
  ·intro i e' ρ' τ ys p' hi sub eacc hl k
   refine rCL b'.h (sub _ _ ed4) (fun v' hv' => ?_) (fun hn => by exact sn (hi.symm.trans hn))
   obtain rfl := si (hi.symm.trans hv')
   walk_at "a"
   walk_at "S"
   refine ⟨by simp, fun t ht => ?_⟩
   have hlt := (Gs hi).1
   (try simp only [List.length_reverse, List.length_append, List.length_cons, List.length_nil] at hlt)
   exact ⟨ys, keep_new ht eacc, by lia, k _ t (p'.set (by walk_at "f")) ht⟩
  intro ρ' τ ys p' sub eacc ftv
  refine rCL b'.h (sub _ _ ed4) (fun v' hv' => by exact nn ((List.getElem?_eq_none (Nat.le_refl _)).symm.trans hv')) (fun hn => ⟨fun q hq => ?_, ?_⟩)
  ·rw [List.mem_singleton] at hq
   subst hq
   exact p'.trans (look_eq : List.lookup (Str.ofString "caught") (setL (setL (setL ρ "node" (.ref a')) "view" v) "caught" (.ref s)) = some (.ref s)).symm
  have yl : ys.length = (xo).length := by have := ftv.1; rw [List.length_map, List.length_reverse] at this; exact this.symm
  (try simp only [List.length_append, List.length_cons, List.length_nil] at yl)
  have sT := ss.trans sub
  refine xe13 ((rs6.sub sT).push W ftv) fun xs2 w1 w2 rs7 => ?_
  have wlx : xs2.length = St.length := w2
  walk_at "S"
  refine CALL_extend w1 eacc (by (try simp only [List.length_append, List.length_reverse, List.length_map] at wlx); lia) (by lia) ?_
  walk_at "S"
  rw [List.map_reverse] at rs7
  generalize τ.set wa (.list (xs2 ++ ys)) = σ7 at rs7 ⊢
  obtain ⟨xq, wx7, -⟩ := rs7.wt
  walk_at "S"
  refine METH_extend wx7 ?_
  walk_at "S"
  walk_at "a"
  walk_at "S"
  refine GET_parts hK h1 rs7.rep.on ?_
  walk_at "S"
  refine SUB_list (rs7.rep.on.list h1.ps) (by decide) (by decide) rfl ?_
  walk_at "S"
  refine (nodes_of_C hK (n := n) (b'.mono (by lia)) rs7.rep.on (Flats.sing (.list h2) hfi) (by lia) fun d3 hd3 => ?_).call
  walk_at "S"
  refine SLC_rev (xs := xi) (Sto.set_self ..) (by (try simp only [List.length_append, List.length_cons, List.length_nil]); lia) fun d4 hd4 => ?_
  refine ITR_list (Sto.set_self ..) ⟨rfl, fun acc L3 hacc3 => ?_⟩
  have ss : Sub σ7 ((σ7.set d3 (.list (xi))).set d4 (.list (xi).reverse)) := (Sub.new hd3).trans (Sub.new hd4)
  have ed4 : ((σ7.set d3 (.list (xi))).set d4 (.list (xi).reverse)) d4 = some (.list (xi).reverse) := Sto.set_self ..
  generalize ((σ7.set d3 (.list (xi))).set d4 (.list (xi).reverse)) = σb at ss ed4 hacc3 ⊢
  refine pair_loop (P := fun ρ' => LK ρ' "view" v) (es := (xi).reverse) (v := v) (acc := acc) (R := fun i ρ' τ => RC _ _ _ _ _ _ _ _ acc (.list d4 i) (FF.at_ _) ρ' τ) hacc3 ?_ ?_ _ (cfree_one (look_ne (by walk_at "f") look_eq : List.lookup (Str.ofString "view") (setL (setL (setL ρ "node" (.ref a')) "view" v) "caught" (.ref s)) = some v))
  ·intro i e' ρ' τ ys p' hi sub eacc hl k
   refine rCL b'.h (sub _ _ ed4) (fun v' hv' => ?_) (fun hn => by exact sn (hi.symm.trans hn))
   obtain rfl := si (hi.symm.trans hv')
   walk_at "a"
   walk_at "S"
   refine ⟨by simp, fun t ht => ?_⟩
   have hlt := (Gs hi).1
   (try simp only [List.length_reverse, List.length_append, List.length_cons, List.length_nil] at hlt)
   exact ⟨ys, keep_new ht eacc, by lia, k _ t (p'.set (by walk_at "f")) ht⟩
  intro ρ' τ ys p' sub eacc ftv
  refine rCL b'.h (sub _ _ ed4) (fun v' hv' => by exact nn ((List.getElem?_eq_none (Nat.le_refl _)).symm.trans hv')) (fun hn => ⟨fun q hq => ?_, ?_⟩)
  ·rw [List.mem_singleton] at hq
   subst hq
   exact p'.trans (look_ne (by walk_at "f") look_eq : List.lookup (Str.ofString "view") (setL (setL (setL ρ "node" (.ref a')) "view" v) "caught" (.ref s)) = some v).symm
  have yl : ys.length = (xi).length := by have := ftv.1; rw [List.length_map, List.length_reverse] at this; exact this.symm
  (try simp only [List.length_append, List.length_cons, List.length_nil] at yl)
  have sT := ss.trans sub
  refine xe13 ((rs7.sub sT).push W ftv) fun xs2 w1 w2 rs8 => ?_
  have wlx : xs2.length = (St ++ (xo.map fun e => (e, MV.ref s)).reverse).length := w2
  walk_at "S"
  refine CALL_extend w1 eacc (by (try simp only [List.length_append, List.length_reverse, List.length_map] at wlx); lia) (by lia) ?_
  walk_at "S"
  rw [List.map_reverse] at rs8
  exact k0 _ ⟨(a', .ct z.S.m) :: z.D, μ', scTr z.S ch f x, z.us⟩ s ⟨((p1.set (by walk_at "f")).set (by walk_at "f")).set (by walk_at "f"), ((p2.set (by walk_at "f")).set (by walk_at "f")).set (by walk_at "f")⟩ jz ⟨q3.m, scTr_le⟩ q1 rfl rfl _ rs8
 ·intro ρ z St a' p pp pb' d' x ps st bt xb ch f v ⟨p1, p2⟩ jj ci hcl hfa h1 h2 h3 hfb hbody hdl hvl hpl hl hbz hxl k0 σ1 rs
  refine xe03 hbz fun bz1 bz2 bz3 => ?_
  refine rWh ?_
  walk_at "S"
  refine xe25 (rs.pop W) fun xs1 t1 x1 x2 et rs1 et1 => ?_
  refine CALL_len_list x1 (by rw [List.length_append, List.length_singleton]; lia) ?_
  walk_at "S"
  refine if_b (fun U => ?_) (fun hc => by simp at hc)
  walk_at "a"
  walk_at "S"
  refine METH_pop x1 ?_
  walk_at "S"
  refine CALL_pop x1 (by lia) ?_
  refine rAT b'.h et1 ?_ (by walk_at "=i") (by walk_at "=o")
  walk_at "a"
  walk_at "a"
  walk_at "a"
  have wx : (σ1.set wa (.list xs1)) wa = some (.list xs1) := Sto.set_self ..
  generalize σ1.set wa (.list xs1) = σ2 at rs1 et1 wx ⊢
  walk_at "S"
  refine GET_kind hK h1 rs1.rep.on ?_
  walk_at "S"
  refine GET_kind hK h1 rs1.rep.on ?_
  walk_at "S"
  refine GET_kind hK h1 rs1.rep.on ?_
  walk_at "S"
  refine Scope_newF hK hw (n := n) (b'.mono (by lia)) rs1.rep h1 h2 hbody ci.vv ci.hok hpl (by rw [List.length_map]; exact hvl) (by rw [List.length_map]; exact hdl) (bind_w hw h4 ps bt) (bindN_nodup ps bt) (by have := nodup_len5 (bindN_nodup ps bt); lia) jj.cap jj.pl fun s μ' σ3 q1 qb q2 q3 => ?_
  rw [needs_w hw h4, sfN_eq] at q2
  walk_at "S"
  obtain ⟨f0, e0, -, -, hf4⟩ := h1.at_
  refine xe13 (q2.on.node_at e0) fun f1 e1 hs1 hl1 => ?_
  refine SETA_own e1 (by lia) rfl (OS_node hK (by decide)) ?_
  refine xe12 qb fun fsb eb lbb => ?_
  have hsa : s ≠ a' := by
   rintro rfl
   have := q2.off _ _ q1
   exact sn (e0.symm.trans this)
  have rep4 := q2.node (r := .sc z.S.n) e0 e1 (jj.freshF hnd hfa) ⟨s, q1, rfl⟩ hs1
  have fr4 := q3.trans (Fr.node (Λ := Λ) (μ := μ') (o := .inst 31 (setL f1 "scope" (.ref s))) (ns e0) e1 rfl)
  have eb := keep_ne (x := .inst 31 (setL f1 "scope" (.ref s))) hsa eb
  generalize σ3.set a' (.inst 31 (setL f1 "scope" (.ref s))) = σ4 at rep4 fr4 eb ⊢
  walk_at "S"
  have hfn := fnV_lt ci.ok ci.fn
  refine xe11 (jj.lf f hfn) fun af haf => ?_
  refine FUNC hK (n := n) rep4 (q3.m _ _ haf) ?_ (b'.mono (by lia)) (ci.ok.le newSc_le) (ci.vv.mono q3.m) ci.fn
  walk_at "S"
  refine GET_self hK rep4 (q3.m _ _ haf) (P := RV μ' (.kids f)) (by decide) (fun fs g => by refine xe12 g.kids fun a e q => ?_; exact ⟨_, e, a, q, rfl⟩) ?_
  rintro _ ⟨cc, hcc, rfl⟩
  obtain ⟨_, ecc, cs, rfl, hcs⟩ := rep4.at_ _ _ hcc
  have hcl' := hcs.1
  rw [newSc_kids hfn] at hcl'
  have hkk := (jj.kids f).1
  have hsc : s ≠ cc := by rintro rfl; rw [eb] at ecc; cases ecc
  refine METH_append ecc ?_
  walk_at "S"
  refine CALL_append ecc (by lia) ?_
  have rep5 : Rep w Λ ((a', .sc z.S.n) :: z.D) μ' (scFn z.S ch f d' x ps st bt) (σ4.set cc (.list (cs ++ [.ref s]))) := rep4.set hcc rfl rfl (fun tp => ⟨_, rfl, by unfold scFn kidAdd; rw [setSc_self]; exact hcs.snoc ⟨s, q1, rfl⟩⟩) fun r' o' hr => Good.updSc hr cmp_kids
  have fr5 := fr4.trans (Fr.set (o := .list (cs ++ [.ref s])) hcc (rep4.nt hcc))
  have eb := keep_ne (x := .list (cs ++ [.ref s])) hsc eb
  generalize σ4.set cc (.list (cs ++ [.ref s])) = σ5 at rep5 fr5 eb ⊢
  have jz := jj.fn (ch := ch) (f := f) (d := d') (x := x) (ps := ps) (st := st) (b := bt) hfa q3.m q1
  have rs5 : RS w Λ μ σ wa ua σ5 ⟨(a', .sc z.S.n) :: z.D, μ', scFn z.S ch f d' x ps st bt, z.us⟩ St := rs1.next W rep5 fr5 rfl
  obtain ⟨xq, wx5, -⟩ := rs5.wt
  walk_at "S"
  refine METH_extend wx5 ?_
  walk_at "S"
  walk_at "a"
  walk_at "S"
  refine GET_own eb lbb (OA_scope hK (by decide)) ?_
  walk_at "S"
  refine (nodes_of_C hK (n := n) (b'.mono (by lia)) rs5.rep.on (Flats.sing (.list h3) hfb) (by lia) fun d3 hd3 => ?_).call
  walk_at "S"
  refine SLC_rev (xs := xb) (Sto.set_self ..) (by (try simp only [List.length_append, List.length_cons, List.length_nil]); lia) fun d4 hd4 => ?_
  refine ITR_list (Sto.set_self ..) ⟨rfl, fun acc L3 hacc3 => ?_⟩
  have ss : Sub σ5 ((σ5.set d3 (.list (xb))).set d4 (.list (xb).reverse)) := (Sub.new hd3).trans (Sub.new hd4)
  have ed4 : ((σ5.set d3 (.list (xb))).set d4 (.list (xb).reverse)) d4 = some (.list (xb).reverse) := Sto.set_self ..
  generalize ((σ5.set d3 (.list (xb))).set d4 (.list (xb).reverse)) = σb at ss ed4 hacc3 ⊢
  refine pair_loop (P := fun ρ' => LK ρ' "child" (MV.ref s)) (es := (xb).reverse) (v := (MV.ref s)) (acc := acc) (R := fun i ρ' τ => RC _ _ _ _ _ _ _ _ acc (.list d4 i) (FF.at_ _) ρ' τ) hacc3 ?_ ?_ _ (cfree_one (look_eq : List.lookup (Str.ofString "child") (setL (setL (setL ρ "node" (.ref a')) "view" v) "child" (.ref s)) = some (.ref s)))
  ·intro i e' ρ' τ ys p' hi sub eacc hl k
   refine rCL b'.h (sub _ _ ed4) (fun v' hv' => ?_) (fun hn => by exact sn (hi.symm.trans hn))
   obtain rfl := si (hi.symm.trans hv')
   walk_at "a"
   walk_at "S"
   refine ⟨by simp, fun t ht => ?_⟩
   have hlt := (Gs hi).1
   (try simp only [List.length_reverse, List.length_append, List.length_cons, List.length_nil] at hlt)
   exact ⟨ys, keep_new ht eacc, by lia, k _ t (p'.set (by walk_at "f")) ht⟩
  intro ρ' τ ys p' sub eacc ftv
  refine rCL b'.h (sub _ _ ed4) (fun v' hv' => by exact nn ((List.getElem?_eq_none (Nat.le_refl _)).symm.trans hv')) (fun hn => ⟨fun q hq => ?_, ?_⟩)
  ·rw [List.mem_singleton] at hq
   subst hq
   exact p'.trans (look_eq : List.lookup (Str.ofString "child") (setL (setL (setL ρ "node" (.ref a')) "view" v) "child" (.ref s)) = some (.ref s)).symm
  have yl : ys.length = (xb).length := by have := ftv.1; rw [List.length_map, List.length_reverse] at this; exact this.symm
  (try simp only [List.length_append, List.length_cons, List.length_nil] at yl)
  have sT := ss.trans sub
  refine xe13 ((rs5.sub sT).push W ftv) fun xs2 w1 w2 rs6 => ?_
  have wlx : xs2.length = St.length := w2
  walk_at "S"
  refine CALL_extend w1 eacc (by (try simp only [List.length_append, List.length_reverse, List.length_map] at wlx); lia) (by lia) ?_
  walk_at "S"
  rw [List.map_reverse] at rs6
  exact k0 _ ⟨(a', .sc z.S.n) :: z.D, μ', scFn z.S ch f d' x ps st bt, z.us⟩ s ⟨((p1.set (by walk_at "f")).set (by walk_at "f")).set (by walk_at "f"), ((p2.set (by walk_at "f")).set (by walk_at "f")).set (by walk_at "f")⟩ jz ⟨q3.m, scFn_le⟩ q1 rfl rfl _ rs6
 ·intro ρ z' ⟨p1, p2⟩ jz le e1 e2 σ1 rs
  refine xe12 rs.wt fun zs x1 x2 => ?_
  obtain rfl := x2.nil_of
  refine xe12 rs.us fun ys y1 y2 => ?_
  refine rWh ?_
  walk_at "S"
  refine CALL_len_list x1 (by simp) ?_
  walk_at "S"
  refine if_b (fun hc => by simp at hc) (fun U => ?_)
  walk_at "S"
  exact h ua ys z' σ1 rs.rep jz e1 e2 rs.fr y1 y2 rs.ou W.lu le.s
end
end
section
noncomputable def S00 : AS := ⟨0, 0, fun U => ⟨[], false, false, [], [], none, [], [], 0, 0, [], [], []⟩, fun U => ⟨[], 0⟩, fun U => false, fun U => none⟩
noncomputable def S0 : AS := newSc S00 [] false false [] [] none
noncomputable abbrev ch0 : List VE := [.sc 0 [] none]
noncomputable def scanT (t : T) : AS × Uses := scan t ch0 0 (S0, [])
noncomputable def capU (T : AS) (q : List VE × N) : AS := match lookV q.1 q.2 with
 | (some b, p :: ps) => captureA T b (p :: ps)
 | _ => T
noncomputable def plA (us : Uses) (T : AS) (k : Nat) : AS := placesA T k us
noncomputable def A1 (t : T) : AS := markA (scanT t).1 (scanT t).2 (List.range (scanT t).1.n)
noncomputable def A2 (t : T) : AS := (List.range (scanT t).1.n).foldl (plA (scanT t).2) (A1 t)
noncomputable def A3 (t : T) : AS := (scanT t).2.foldl capU (A2 t)
structure Ready (t : T) : Prop where
 wk : Walk (scanT t).1 [0] (List.range (scanT t).1.n)
 n : (scanT t).1.n ≤ 1000
 uok : UOk (scanT t).1 (scanT t).2
 ul : (scanT t).2.length ≤ 1000
 ps : ∀ k, k < (scanT t).1.n → ∀ x ∈ ((scanT t).1.sc k).ps, x ∈ ((scanT t).1.sc k).own
 psl : ∀ k, k < (scanT t).1.n → ((scanT t).1.sc k).ps.length ≤ 10
 z : ∀ k, ((scanT t).1.sc k).pps = [] ∧ ((scanT t).1.sc k).caps = [] ∧ ((scanT t).1.sc k).capd = []
 placed : ∀ q ∈ (scanT t).2, ∀ b p ps, lookV q.1 q.2 = (some b, p :: ps) → ∃ c i, (A2 t).pl b = some (c, i)
theorem captureF_sz {b : BId} : ∀ (ps : List Nat) (q : AS × Option Nat) (B : Nat), Sz q.1 B → Sz (ps.foldl (capStep b) q).1 (B + ps.length)
 | [], _, _, h => h
 | p :: ps, q, B, h => by
  have := captureF_sz (b := b) ps (capStep b q p) (B + 1) (capStep_sz h)
  rw [List.foldl_cons, List.length_cons, show B + (ps.length + 1) = B + 1 + ps.length by lia]
  exact this
theorem captureA_sz {S : AS} {b : BId} {ps : List Nat} {B : Nat} (h : Sz S B) : Sz (captureA S b ps) (B + ps.length) := by
 have := captureF_sz (b := b) ps.reverse (S, none) B h
 rw [List.length_reverse] at this
 exact this
theorem captureF_pl {b : BId} : ∀ (ps : List Nat) (q : AS × Option Nat), (ps.foldl (capStep b) q).1.pl = q.1.pl
 | [], _ => rfl
 | p :: ps, q => by rw [List.foldl_cons, captureF_pl ps, capStep_pl]
theorem captureA_pl {S : AS} {b : BId} {ps : List Nat} : (captureA S b ps).pl = S.pl := captureF_pl ps.reverse (S, none)
theorem capAdd_stat {T : AS} {k : Nat} {b : BId} {e : Bool × Nat} : Stat T (capAdd T k b e) := (setSc_stat ⟨rfl, rfl, rfl, rfl, rfl, rfl, rfl, rfl⟩).trans (setSc_stat ⟨rfl, rfl, rfl, rfl, rfl, rfl, rfl, rfl⟩)
theorem capStep_stat {b : BId} {q : AS × Option Nat} {k : Nat} : Stat q.1 (capStep b q k).1 := by
 unfold capStep
 split
 ·exact Stat.refl
 ·exact capAdd_stat
theorem captureF_stat {b : BId} : ∀ (ps : List Nat) (q : AS × Option Nat), Stat q.1 (ps.foldl (capStep b) q).1
 | [], _ => Stat.refl
 | p :: ps, q => by rw [List.foldl_cons]; exact capStep_stat.trans (captureF_stat ps _)
theorem captureA_stat {S : AS} {b : BId} {ps : List Nat} : Stat S (captureA S b ps) := captureF_stat ps.reverse (S, none)
theorem capU_stat {T : AS} {q : List VE × N} : Stat T (capU T q) := by
 unfold capU
 split
 ·exact captureA_stat
 ·exact Stat.refl
theorem capU_pl {T : AS} {q : List VE × N} : (capU T q).pl = T.pl := by
 unfold capU
 split
 ·exact captureA_pl
 ·rfl
theorem A1_stat {t : T} : Stat (scanT t).1 (A1 t) := markA_stat
theorem A2_stat {t : T} : Stat (scanT t).1 (A2 t) := A1_stat.trans (stat_fold (fun U U => placesA_stat) _ _)
theorem A3_stat {t : T} : Stat (scanT t).1 (A3 t) := A2_stat.trans (stat_fold (fun U U => capU_stat) _ _)
theorem placesA_pps {S : AS} {k k' : Nat} {us : Uses} (h : k' ≠ k) : ((placesA S k us).sc k').pps = (S.sc k').pps := by
 unfold placesA
 rw [pps_fold (f := gPar k) (fun T y => by unfold gPar; rw [setSc_ne h]), pps_fold (f := gCat k) (fun U U => giveA_pps), gSelf_pps, pps_fold (f := gOwn k) (fun U U => giveA_pps)]
theorem sc_fold {γ : Type} {f : AS → γ → AS} (h : ∀ S y, (f S y).sc = S.sc) : ∀ (ys : List γ) (S : AS), (ys.foldl f S).sc = S.sc
 | [], _ => rfl
 | y :: ys, S => by rw [List.foldl_cons, sc_fold h ys]; exact h S y
theorem markA_sc {S : AS} {us : Uses} {order : List Nat} : (markA S us order).sc = S.sc := by
 unfold markA
 rw [sc_fold (f := markS) (fun T k => by unfold markS; split; exact sc_fold (f := markP k) (fun U U => rfl) _ _; rfl), sc_fold (f := markU) (fun T q => by unfold markU; split <;> rfl)]
theorem giveA_cp {S : AS} {k k' : Nat} {b : BId} : ((giveA S k b).sc k').capd = (S.sc k').capd ∧ ((giveA S k b).sc k').caps = (S.sc k').caps := by
 unfold giveA
 split <;> (dsimp only; by_cases e : k' = k)
 ·subst e; rw [upd_self]; exact ⟨rfl, rfl⟩
 ·rw [upd_ne _ _ e]; exact ⟨rfl, rfl⟩
 ·subst e; rw [upd_self]; exact ⟨rfl, rfl⟩
 ·rw [upd_ne _ _ e]; exact ⟨rfl, rfl⟩
noncomputable def CpEq (S S' : AS) : Prop := ∀ k, (S'.sc k).capd = (S.sc k).capd ∧ (S'.sc k).caps = (S.sc k).caps
theorem CpEq.refl {S : AS} : CpEq S S := fun U => ⟨rfl, rfl⟩
theorem CpEq.trans {S S' S'' : AS} (h : CpEq S S') (h' : CpEq S' S'') : CpEq S S'' := fun k => ⟨(h' k).1.trans (h k).1, (h' k).2.trans (h k).2⟩
theorem cp_fold {γ : Type} {f : AS → γ → AS} (h : ∀ S y, CpEq S (f S y)) : ∀ (ys : List γ) (S : AS), CpEq S (ys.foldl f S)
 | [], _ => CpEq.refl
 | y :: ys, S => by rw [List.foldl_cons]; exact (h S y).trans (cp_fold h ys _)
theorem gSelf_cp {k : Nat} {T : AS} {us : Uses} : CpEq T (gSelf k T us) := by
 unfold gSelf
 split
 ·split
  ·exact fun U => giveA_cp
  ·exact CpEq.refl
 ·exact CpEq.refl
theorem gPar_cp {k : Nat} {T : AS} {y : N} : CpEq T (gPar k T y) := fun k' => by
 unfold gPar
 by_cases e : k' = k
 ·subst e; rw [setSc_self]; exact ⟨rfl, rfl⟩
 ·rw [setSc_ne e]; exact ⟨rfl, rfl⟩
theorem placesA_cp {S : AS} {k : Nat} {us : Uses} : CpEq S (placesA S k us) := by
 have h1 : CpEq S ((S.sc k).own.foldl (gOwn k) S) := cp_fold (f := gOwn k) (fun U U U => giveA_cp) _ _
 have h2 := h1.trans (gSelf_cp (us := us) (k := k))
 have h3 := h2.trans (cp_fold (f := gCat k) (fun U U U => giveA_cp) (S.sc k).cats _)
 exact h3.trans (cp_fold (f := gPar k) (fun U U => gPar_cp) (S.sc k).ps _)
theorem A2_sz {t : T} (rd : Ready t) : Sz (A2 t) 0 := fun k => by
 have h1 : CpEq (A1 t) (A2 t) := cp_fold (fun U U => placesA_cp) _ _
 have h2 : (A1 t).sc = (scanT t).1.sc := markA_sc
 refine xe03 (rd.z k) fun z1 z2 z3 => ?_
 rw [(h1 k).1, (h1 k).2, h2, z2, z3]
 exact ⟨Nat.le_refl _, Nat.le_refl _⟩
section
variable {C : Cx} (hK : PK C) {A : Around} {n : Nat} {σ : Sto} {w : N → Str} (hw : ∀ x y, w x = w y → x = y) (h4 : w 4 = "arguments") {fa ta : List Addr}
include hK hw h4
theorem analyse_C (b : Bud A (n + 80)) {t : T} (rd : Ready t) {a p pb : Addr} {xs : List MV} (nd : Nd σ a "Program" p [.ref pb, .bool false]) (epb : σ pb = some (.list xs)) (ast : Ast σ w fa ta t 1 0 xs) (hfa : fa[0]? = some a) (hnd : (fa ++ ta).Nodup)
  (hd : dep t ≤ 20) (hwf : wfT t) (hsz : sz t ≤ 300) {Q : MV → Sto → Prop}
  (h : ∀ r D μ σ', Rep w σ D μ (A3 t) σ' → (∀ j a, j < (scanT t).1.n → fa[j]? = some a → (a, Role.sc j) ∈ D) → (∀ c a, c < (scanT t).1.m → ta[c]? = some a → (a, Role.ct c) ∈ D) → Q (.ref r) σ') : CALLC C A (.ref 312) [.ref a] σ Q := by
 refine runFn hK (f := 312) ["program"] (fun U => rfl) (fun U => rfl) rfl rfl (ar1 fun U => rfl) rfl rfl b fun FF e1 e2 hK b' => ?_
 subst e1 e2
 have rep0 : Rep w σ [] (fun U => none) S00 σ := ⟨fun a o e => .inl e, fun U U e => none_ne e, fun U U U e => none_ne e, fun U U e => none_ne e, fun U U e => none_ne e, List.forall_mem_nil _⟩
 have hvs := ds_len t
 walk_at "S"
 refine Scope_newP hK hw (n := n) (b'.mono (by lia)) rep0 nd (ast.body (by lia) epb) (by rw [List.length_map]; lia) fun s μ1 σ1 q1 qb rep1 fr1 => ?_
 have q1 : μ1 (.sc 0) = some s := q1
 have rep1 : Rep w σ [] μ1 S0 σ1 := rep1
 refine xe12 qb fun fs es lb => ?_
 walk_at "S"
 obtain ⟨f0, e0, -, -, hf4⟩ := nd.at_
 refine xe13 (rep1.on.node_at e0) fun f1 e1 hs1 hl1 => ?_
 refine SETA_own e1 (by lia) rfl (OS_node hK (by decide)) ?_
 have hsa : s ≠ a := by
  rintro rfl
  have := rep1.off _ _ q1
  exact sn (e0.symm.trans this)
 have rep2 := rep1.node (r := .sc 0) e0 e1 (List.forall_mem_nil _) ⟨s, q1, rfl⟩ hs1
 have es := keep_ne (x := .inst 31 (setL f1 "scope" (.ref s))) hsa es
 generalize σ1.set a (.inst 31 (setL f1 "scope" (.ref s))) = σ2 at rep2 es ⊢
 walk_at "S"
 have j0 : J fa ta ⟨[(a, .sc 0)], μ1, S0, []⟩ := by
  refine ⟨fun U => rfl, fun U => rfl, fun k => ?_, fun q hq => ?_, fun j y hj hy => ?_, fun c y hc => absurd hc (Nat.not_lt_zero _), fun j hj => ?_, fun c hc => absurd hc (Nat.not_lt_zero _)⟩
  ·show (upd S00.sc 0 _ k).kids.length ≤ 1 ∧ (upd S00.sc 0 _ k).cats.length ≤ 0
   by_cases e : k = 0
   ·subst e; rw [upd_self]; exact ⟨Nat.zero_le _, Nat.zero_le _⟩
   ·rw [upd_ne _ _ e]; exact ⟨Nat.zero_le _, Nat.zero_le _⟩
  ·rw [List.mem_singleton] at hq
   subst hq
   exact .inl ⟨0, Nat.lt_succ_self _, hfa⟩
  ·have : j = 0 := by have : j < 1 := hj; lia
   subst this
   obtain rfl := si (hfa.symm.trans hy)
   exact List.mem_singleton_self _
  ·have : j = 0 := by have : j < 1 := hj; lia
   subst this
   exact ⟨s, q1⟩
 refine (read_names_C hK hw h4 (n := n) (b'.mono (by lia)) rep2 q1 es lb epb ast j0 rfl rfl (by lia) (by lia) (by lia) ⟨by show (upd S00.sc 0 _ 0).own = []; rw [upd_self], by show (upd S00.sc 0 _ 0).sf = none; rw [upd_self], by show (upd S00.sc 0 _ 0).ch = []; rw [upd_self]⟩ hd hwf hsz hnd fun ua ys z σ3 rep3 j3 e3 u3 fr3 eu fu ou lu sle => ?_).call
 have e3 : z.S = (scanT t).1 := e3
 have u3 : z.us = (scanT t).2 := u3
 rw [e3] at rep3
 rw [u3] at fu
 have q3 := fr3.m _ _ q1
 walk_at "S"
 have hol : (List.range (scanT t).1.n).length ≤ 1000 := by rw [List.length_range]; exact rd.n
 refine (all_scopes_C hK (n := n) (b'.mono (by lia)) rep3 q3 rd.wk (by lia) fun so zs hso hzs => ?_).call
 have lso := rep3.fresh hso
 have oso := Off.new rep3 hso
 have eu4 := keep_new (x := .list zs) hso eu
 have fu4 := fu.mono fun _ _ (h : UV _ _ _ _ _) => h.mono (μ' := z.μ) MSub.refl (Sub.new (o := .list zs) hso).tup
 have eso : (σ3.set so (.list zs)) so = some (.list zs) := Sto.set_self ..
 have rep4 := rep3.sub (Sub.new (o := .list zs) hso)
 generalize σ3.set so (.list zs) = σ4 at eu4 fu4 eso rep4 ⊢
 walk_at "S"
 refine (mark_captured_C hK hw (n := n) (b'.mono (by lia)) rep4 eu4 fu4 rd.uok eso hzs (fun k hk => rd.ps k (List.mem_range.mp hk)) fun σ5 rep5 fr5 kn5 => ?_).call
 have rep5 : Rep w σ z.D z.μ (A1 t) σ5 := rep5
 obtain ⟨eu5, -⟩ := fr5.k _ _ lu ou eu4
 obtain ⟨eso5, -⟩ := fr5.k _ _ lso oso eso
 have fu5 := fu4.mono fun _ _ (h : UV _ _ _ _ _) => h.mono fr5.m fr5.t
 have hzl := hzs.1
 walk_at "S"
 refine ITR_list eso5 ?_
 have z1 : ∀ k, ((A1 t).sc k).pps = [] := fun k => by rw [show (A1 t).sc = (scanT t).1.sc from markA_sc]; exact (rd.z k).1
 refine up_fold (ys := List.range (scanT t).1.n) (f := plA (scanT t).2) (P := fun ρ => LK ρ "uses" (.ref ua) ∧ LK ρ "root" (.ref s)) (R := fun i ρ T => ∀ σ', Rep w σ z.D z.μ T σ' → Fr σ z.μ σ5 z.μ σ' → Stat (scanT t).1 T → (∀ k, i ≤ k → (T.sc k).pps = []) → RF _ _ _ _ _ (.list so i) FF ρ σ')
  ?_ (List.range (scanT t).1.n).length 0 _ (A1 t) (Nat.zero_add _) ⟨by rfl, by rfl⟩ ?_ σ5 rep5 Fr.refl A1_stat (fun k U => z1 k)
 ·rintro i k ρ T ⟨l1, l2⟩ hi k0 σ6 rep6 fr6 st6 hp6
  have hik : k = i := by rw [List.getElem?_range (by have := (Gs hi).1; rwa [List.length_range] at this)] at hi; exact (Option.some.inj hi).symm
  have hkn : k < (scanT t).1.n := List.mem_range.mp (List.mem_of_getElem? hi)
  subst hik
  obtain ⟨_, hx, ka, hka, rfl⟩ := hzs.get hi
  obtain ⟨eso6, -⟩ := fr6.k _ _ lso oso eso5
  refine rFL b'.h eso6 (fun v hv => ?_) (fun hn => by exact sn (hx.symm.trans hn))
  obtain rfl := si (hx.symm.trans hv)
  walk_at "a"
  walk_at "S"
  refine xe08 (st6.sc k) fun U t2 t3 t4 t5 t6 t7 t8 => ?_
  refine (give_places_C hK hw (n := n) (b'.mono (by lia)) rep6 hka (fr6.k _ _ lu ou eu5).1 ou lu (fu5.mono fun _ _ (h : UV _ _ _ _ _) => h.mono fr6.m fr6.t) (rd.uok.stat st6) (by rw [t4, t5]; exact rd.ps k hkn) (by rw [t4]; have := rd.psl k hkn; lia) (by rw [hp6 k (Nat.le_refl _)]; simp) fun σ7 rep7 fr7 => ?_).call
  walk_at "S"
  exact k0 _ ⟨l1.set (by walk_at "f"), l2.set (by walk_at "f")⟩ σ7 rep7 (fr6.trans fr7) (st6.trans placesA_stat) fun k' hk' => by rw [show ((plA (scanT t).2 T k).sc k').pps = (T.sc k').pps from placesA_pps (by lia)]; exact hp6 k' (by lia)
 rintro ρ ⟨l1, l2⟩ σ6 rep6 fr6 st6 -
 rw [List.drop_zero] at rep6 st6
 have rep6 : Rep w σ z.D z.μ (A2 t) σ6 := rep6
 obtain ⟨eso6, -⟩ := fr6.k _ _ lso oso eso5
 refine rFL b'.h eso6 (fun v hv => by have := (Gs hv).1; lia) (fun U => ?_)
 walk_at "S"
 obtain ⟨eu6, -⟩ := fr6.k _ _ lu ou eu5
 have fu6 := fu5.mono fun _ _ (h : UV _ _ _ _ _) => h.mono fr6.m fr6.t
 refine ITR_list eu6 ?_
 have hul := rd.ul
 have hfl := fu6.1
 refine up_fold (ys := (scanT t).2) (f := capU) (P := fun ρ => LK ρ "root" (.ref s)) (R := fun i ρ T => ∀ σ', Rep w σ z.D z.μ T σ' → Fr σ z.μ σ6 z.μ σ' → Stat (scanT t).1 T → T.pl = (A2 t).pl → Sz T (100 * i) → RF _ _ _ _ _ (.list ua i) FF ρ σ')
  ?_ (scanT t).2.length 0 _ (A2 t) (Nat.zero_add _) l2 ?_ σ6 rep6 Fr.refl A2_stat rfl (A2_sz rd)
 ·rintro i ⟨ch, x⟩ ρ T l1 hi k0 σ7 rep7 fr7 st7 pl7 sz7
  obtain ⟨_, hx, tt, vv, rfl, et, hvv⟩ := fu6.get hi
  have hlt := (Gs hi).1
  refine xe02 (rd.uok _ (List.mem_of_getElem? hi)) fun okc okl => ?_
  have hpl := rd.placed _ (List.mem_of_getElem? hi)
  refine rFL b'.h (fr7.k _ _ lu ou eu6).1 (fun v hv => ?_) (fun hn => by exact sn (hx.symm.trans hn))
  obtain rfl := si (hx.symm.trans hv)
  refine rAT b'.h (fr7.t _ _ et) ?_ (by walk_at "=i") (by walk_at "=o")
  walk_at "a"
  walk_at "a"
  walk_at "a"
  walk_at "a"
  walk_at "S"
  refine (look_up_C' hK hw (n := n) (b'.mono (by lia)) rep7 (okc.stat st7) okl hvv fun t2 pl bv zs2 σ8 hplf sub2 et2 epl hbv hzs2 => ?_).call
  have rep8 := rep7.sub sub2
  refine rAT b'.h et2 ?_ (by walk_at "=i") (by walk_at "=o")
  walk_at "a"
  walk_at "a"
  walk_at "a"
  have hlen : (lookV ch x).2.length ≤ 100 := Nat.le_trans (lookV_len ch x) okl
  have fr8 := fr7.trans (Fr.sub (Λ := σ) (μ := z.μ) sub2)
  have lf : ∀ {a b c d : MV}, LK (setL (setL (setL (setL ρ "view" a) "name" b) "binding" c) "passed" d) "root" (.ref s) := fun {a b c d} => (((l1.set (by walk_at "f")).set (by walk_at "f")).set (by walk_at "f")).set (by walk_at "f")
  have sz8 : Sz T (100 * (i + 1)) := sz7.mono (by lia)
  have e0 : capU T (ch, x) = (match lookV ch x with | (some b, p :: ps) => captureA T b (p :: ps) | _ => T) := rfl
  rw [e0] at k0
  dsimp only at hpl
  generalize lookV ch x = LV at k0 hbv hzs2 hlen hpl
  obtain ⟨ob, ps⟩ := LV
  have hzl2 := hzs2.1
  dsimp only at hzl2 hlen
  walk_at "S"
  cases ob with
  | none =>
   obtain rfl : bv = .none := hbv
   refine if_f ?_
   walk_at "S"
   exact k0 _ lf σ8 rep8 fr8 st7 pl7 sz8
  | some bb =>
   obtain ⟨d, hd, rfl⟩ : RV z.μ (.bi bb) bv := hbv
   refine if_t ?_
   walk_at "S"
   refine CALL_len_list epl (by lia) ?_
   walk_at "S"
   cases ps with
   | nil =>
    obtain rfl := hzs2.nil_of
    refine if_f ?_
    walk_at "S"
    exact k0 _ lf σ8 rep8 fr8 st7 pl7 sz8
   | cons k ps =>
    refine if_b (fun U => ?_) (fun hc => by simp at hc; subst hc; simp at hzl2)
    refine xe21 (hpl bb k ps rfl) fun c0 i0 hp => ?_
    rw [← pl7] at hp
    walk_at "S"
    rw [List.length_cons] at hlen
    refine (capture_C hK (n := n) (b'.mono (by lia)) rep8 hd hp epl (Off.new rep7 hplf) (rep7.fresh hplf) hzs2 sz7 (by rw [List.length_cons]; lia) fun σ9 rep9 fr9 => ?_).call
    walk_at "S"
    refine k0 _ lf σ9 rep9 (fr8.trans fr9) (st7.trans captureA_stat) (captureA_pl.trans pl7) ((captureA_sz sz7).mono (by rw [List.length_cons]; lia))
 ·rintro ρ l1 σ7 rep7 fr7 st7 pl7 sz7
  refine rFL b'.h (fr7.k _ _ lu ou eu6).1 (fun v hv => by have := (Gs hv).1; lia) (fun U => ?_)
  walk_at "S"
  rw [List.drop_zero] at rep7
  exact h s z.D z.μ σ7 rep7 (fun j y hj hy => j3.Df j y (by rw [e3]; exact hj) hy) (fun c y hc hy => j3.Dt c y (by rw [e3]; exact hc) hy)
end
end
section
theorem SETI_list {C : Cx} {A : Around} {σ : Sto} {a : Addr} {xs : List MV} {i : Int} {v : MV} {Q : Sto → Prop} (e : σ a = some (.list xs)) (h0 : 0 ≤ i) (h1 : i < 2 ^ 63) (hi : i.toNat < xs.length) (h : Q (σ.set a (.list (xs.set i.toNat v)))) : SETI C A (.ref a) (.int i) v σ Q := by
 intro ov iv vr eo ei ev η s g
 obtain rfl := MV.of_ref eo
 refine xe11 (MV.of_int ei) fun t eq1 => ?_; obtain rfl := eq1
 refine xe22 (list_open g e) fun its n ho hm => ?_
 have hsz := list_size hm
 refine ki_setAt ho h0 h1 (by lia) ⟨_, ?_, h⟩
 exact g.setS (g.dj a _ e) (g.st.set (o' := .list (xs.set i.toNat v)) (add_left e) rfl rfl (Heap.SameBut.update ..) fun d => ⟨_, _, PySem.IsL.update ho _, by rw [Array.toList_setIfInBounds, List.map_set, hm, ev]⟩) rfl rfl
noncomputable def cut (σ : Sto) (bx cs : Addr) : Sto := fun a => if a = bx ∨ a = cs then none else σ a
theorem cut_sub {σ : Sto} {bx cs : Addr} : Sub (cut σ bx cs) σ := fun a o e => by
 unfold cut at e
 split at e
 ·exact nn e
 ·exact e
theorem cut_at {σ : Sto} {bx cs a : Addr} {o : MO} (h1 : a ≠ bx) (h2 : a ≠ cs) (e : σ a = some o) : cut σ bx cs a = some o := by
 unfold cut
 rw [if_neg (by rintro (h | h) <;> contradiction)]
 exact e
theorem cut_mono {σ σ' : Sto} {bx cs : Addr} (h : Sub σ σ') : Sub (cut σ bx cs) (cut σ' bx cs) := fun a o e => by
 unfold cut at e ⊢
 split at e
 ·exact nn e
 ·rename_i q; rw [if_neg q]; exact h _ _ e
theorem cut_set {σ : Sto} {bx cs a : Addr} {o : MO} (h : a = bx ∨ a = cs) : cut (σ.set a o) bx cs = cut σ bx cs := by
 funext b
 unfold cut
 by_cases q : b = bx ∨ b = cs
 ·rw [if_pos q, if_pos q]
 ·rw [if_neg q, if_neg q, Sto.set_ne]
  rintro rfl; exact q h
noncomputable abbrev iv (x : N) : MV := .int ((x.val : Nat) : Int)
inductive TR (Λ : Sto) : T → List MV → Prop where
 | nil : TR Λ .nil []
 | use {x : N} {r : T} {xs : List MV} {a e1 e2 : Addr} (h : Λ a = some (.tuple [.str "use", iv x, .none, .ref e1, .ref e2])) (h1 : Λ e1 = some (.list [])) (h2 : Λ e2 = some (.list [])) (hr : TR Λ r xs) : TR Λ (.use x r) (.ref a :: xs)
 | var {x y : N} {r : T} {xs : List MV} {a e1 e2 : Addr} (h : Λ a = some (.tuple [.str "var", iv x, iv y, .ref e1, .ref e2])) (h1 : Λ e1 = some (.list [])) (h2 : Λ e2 = some (.list [])) (hr : TR Λ r xs) : TR Λ (.var x y r) (.ref a :: xs)
 | tr {x : N} {i o r : T} {xs xi xo : List MV} {a e1 e2 : Addr} (h : Λ a = some (.tuple [.str "try", iv x, .none, .ref e1, .ref e2])) (h1 : Λ e1 = some (.list xi)) (h2 : Λ e2 = some (.list xo)) (hi : TR Λ i xi) (ho : TR Λ o xo) (hr : TR Λ r xs) : TR Λ (.tr x i o r) (.ref a :: xs)
 | fn {d : Bool} {x : N} {ps : List N} {st : Bool} {b r : T} {xs xb : List MV} {a q p e1 e2 : Addr} (h : Λ a = some (.tuple [.str (if d then "decl" else "expr"), iv x, .ref q, .ref e1, .ref e2])) (hq : Λ q = some (.tuple [.ref p, .bool st])) (hp : Λ p = some (.list (ps.map iv))) (h1 : Λ e1 = some (.list xb)) (h2 : Λ e2 = some (.list []))
   (hb : TR Λ b xb) (hr : TR Λ r xs) : TR Λ (.fn d x ps st b r) (.ref a :: xs)
theorem TR.mono {Λ Λ' : Sto} (s : Sub Λ Λ') {t : T} {xs : List MV} (h : TR Λ t xs) : TR Λ' t xs := by
 induction h with
 | nil => exact .nil
 | use h h1 h2 _ ih => exact .use (s _ _ h) (s _ _ h1) (s _ _ h2) ih
 | var h h1 h2 _ ih => exact .var (s _ _ h) (s _ _ h1) (s _ _ h2) ih
 | tr h h1 h2 _ _ _ i1 i2 i3 => exact .tr (s _ _ h) (s _ _ h1) (s _ _ h2) i1 i2 i3
 | fn h hq hp h1 h2 _ _ i1 i2 => exact .fn (s _ _ h) (s _ _ hq) (s _ _ hp) (s _ _ h1) (s _ _ h2) i1 i2
noncomputable def okT : Bool → T → Prop
 | _, .nil => True
 | b, .use _ r => okT b r
 | b, .var x _ r => x ≠ 4 ∧ okT b r
 | b, .tr x i o r => x ≠ 4 ∧ okT false i ∧ okT false o ∧ okT b r
 | b, .fn d x ps _ t r => x ≠ 4 ∧ 4 ∉ ps ∧ ps.length ≤ 2 ∧ (d = true → b = true) ∧ okT true t ∧ okT b r
noncomputable def appT : T → T → T
 | .nil, s => s
 | .use x r, s => .use x (appT r s)
 | .var x y r, s => .var x y (appT r s)
 | .tr x i o r, s => .tr x i o (appT r s)
 | .fn d x ps st b r, s => .fn d x ps st b (appT r s)
theorem appTE : (∀ s, appT .nil s = (s)) ∧ (∀ x r s, appT (.use x r) s = (.use x (appT r s))) ∧ (∀ x y r s, appT (.var x y r) s = (.var x y (appT r s))) ∧ (∀ x i o r s, appT (.tr x i o r) s = (.tr x i o (appT r s))) ∧ (∀ d x ps st b r s, appT (.fn d x ps st b r) s = (.fn d x ps st b (appT r s))) := ⟨fun U => rfl, fun U U U => rfl, fun U U U U => rfl, fun U U U U U => rfl, fun U U U U U U U => rfl⟩
theorem TR.app {Λ : Sto} {t s : T} {xs ys : List MV} (h : TR Λ t xs) (h' : TR Λ s ys) : TR Λ (appT t s) (xs ++ ys) := by
 induction h with
 | nil => exact h'
 | use h h1 h2 _ ih => exact .use h h1 h2 ih
 | var h h1 h2 _ ih => exact .var h h1 h2 ih
 | tr h h1 h2 hi ho _ _ _ i3 => exact .tr h h1 h2 hi ho i3
 | fn h hq hp h1 h2 hb _ _ i2 => exact .fn h hq hp h1 h2 hb i2
theorem app_ok {b : Bool} : ∀ {t s : T}, okT b t → okT b s → okT b (appT t s)
 | .nil, _, _, h => h
 | .use _ r, _, h, h' => app_ok (t := r) h h'
 | .var _ _ r, _, h, h' => ⟨h.1, app_ok (t := r) h.2 h'⟩
 | .tr _ i o r, _, h, h' => ⟨h.1, h.2.1, h.2.2.1, app_ok (t := r) h.2.2.2 h'⟩
 | .fn _ _ _ _ t r, _, h, h' => ⟨h.1, h.2.1, h.2.2.1, h.2.2.2.1, h.2.2.2.2.1, app_ok (t := r) h.2.2.2.2.2 h'⟩
theorem app_sz : ∀ {t s : T}, sz (appT t s) = sz t + sz s
 | .nil, s => (Nat.zero_add _).symm
 | .use _ r, s => by rw [appTE.2.1, szE.2.1, szE.2.1, app_sz (t := r)]; lia
 | .var _ _ r, s => by rw [appTE.2.2.1, szE.2.2.1, szE.2.2.1, app_sz (t := r)]; lia
 | .tr _ i o r, s => by rw [appTE.2.2.2.1, szE.2.2.2.1, szE.2.2.2.1, app_sz (t := r)]; lia
 | .fn _ _ _ _ b r, s => by rw [appTE.2.2.2.2, szE.2.2.2.2, szE.2.2.2.2, app_sz (t := r)]; lia
theorem app_dep : ∀ {t s : T}, dep (appT t s) = max (dep t) (dep s)
 | .nil, s => (Nat.zero_max _).symm
 | .use _ r, s => by rw [appTE.2.1, depE.2.1, depE.2.1, app_dep (t := r)]
 | .var _ _ r, s => by rw [appTE.2.2.1, depE.2.2.1, depE.2.2.1, app_dep (t := r)]
 | .tr _ i o r, s => by rw [appTE.2.2.2.1, depE.2.2.2.1, depE.2.2.2.1, app_dep (t := r)]; exact (Nat.max_assoc _ _ _).symm
 | .fn _ _ _ _ b r, s => by rw [appTE.2.2.2.2, depE.2.2.2.2, depE.2.2.2.2, app_dep (t := r)]; exact (Nat.max_assoc _ _ _).symm
end
section
noncomputable def gsz : Nat → Nat
 | 0 => 2
 | d + 1 => 1 + 4 * gsz d
theorem gsz2 : ∀ d, 2 ≤ gsz d
 | 0 => Nat.le_refl _
 | d + 1 => by have := gsz2 d; simp only [gsz]; lia
theorem fm {a b : Int} (h : 0 ≤ b) : a.fmod b = a % b := Int.fmod_eq_emod_of_nonneg _ h
theorem mod5 (c : Int) : ∃ x : N, MV.int (c.fmod 5) = iv x := by
 rw [fm (by lia)]
 exact ⟨⟨(c % 5).toNat, by lia⟩, by show MV.int _ = MV.int (((c % 5).toNat : Nat) : Int); congr 1; lia⟩
theorem mod4 (c : Int) : ∃ x : N, x ≠ 4 ∧ MV.int (c.fmod 4) = iv x := by
 rw [fm (by lia)]
 refine ⟨⟨(c % 4).toNat, by lia⟩, fun h => ?_, by show MV.int _ = MV.int (((c % 4).toNat : Nat) : Int); congr 1; lia⟩
 have : (c % 4).toNat = 4 := congrArg Fin.val h
 lia
structure BX (σ : Sto) (bx cs : Addr) : Prop where
 ne : bx ≠ cs
 ex : ∃ (cells : List Int) (k : Int), σ bx = some (.list [.ref cs, .int k]) ∧ σ cs = some (.list (cells.map .int)) ∧ (∀ c ∈ cells, 0 ≤ c) ∧ 0 ≤ k ∧ cells.length ≤ 100
theorem BX.sub {σ σ' : Sto} {bx cs : Addr} (h : BX σ bx cs) (s : Sub σ σ') : BX σ' bx cs := by
 obtain ⟨ne, cells, k, h1, h2, h3⟩ := h
 exact ⟨ne, cells, k, s _ _ h1, s _ _ h2, h3⟩
theorem BX.fresh {σ : Sto} {bx cs d : Addr} (h : BX σ bx cs) (hd : σ d = none) : d ≠ bx ∧ d ≠ cs := by
 obtain ⟨ne, cells, k, h1, h2, h3⟩ := h
 exact ⟨(by rintro rfl; exact nn (hd.symm.trans h1)), (by rintro rfl; exact nn (hd.symm.trans h2))⟩
structure Ext (bx cs : Addr) (σ σ' : Sto) : Prop where
 b : BX σ' bx cs
 k : ∀ a o, a ≠ bx → a ≠ cs → σ a = some o → σ' a = some o
theorem Ext.dom {bx cs : Addr} {σ σ' : Sto} (h : Ext bx cs σ σ') {a : Addr} (e : σ' a = none) : σ a = none := by
 cases q : σ a with
 | none => rfl
 | some o =>
  refine xe02 (h.b.fresh e) fun h1 h2 => ?_
  have := h.k a o h1 h2 q
  exact nn (e.symm.trans this)
theorem Ext.sub {bx cs : Addr} {σ σ' : Sto} (b : BX σ bx cs) (s : Sub σ σ') : Ext bx cs σ σ' := ⟨b.sub s, fun a o U U e => s a o e⟩
theorem Ext.trans {bx cs : Addr} {σ σ' σ'' : Sto} (h : Ext bx cs σ σ') (h' : Ext bx cs σ' σ'') : Ext bx cs σ σ'' := ⟨h'.b, fun a o h1 h2 e => h'.k a o h1 h2 (h.k a o h1 h2 e)⟩
noncomputable def fr (σ σ' : Sto) : Sto := fun a => if (σ a).isNone then σ' a else none
theorem fr_at {σ σ' : Sto} {a : Addr} {o : MO} : fr σ σ' a = some o ↔ σ a = none ∧ σ' a = some o := by
 unfold fr
 cases q : σ a with
 | none => simp
 | some x => simp
theorem fr_mono {σ σ1 σ2 σ3 : Sto} (h1 : ∀ a, σ1 a = none → σ a = none) (h2 : ∀ a o, σ1 a = none → σ2 a = some o → σ3 a = some o) : Sub (fr σ1 σ2) (fr σ σ3) := fun a o e => by
 refine xe02 (fr_at.mp e) fun e1 e2 => ?_
 exact fr_at.mpr ⟨h1 a e1, h2 a o e1 e2⟩
theorem set_dom {σ : Sto} {a b : Addr} {o : MO} (h : (σ.set a o) b = none) : σ b = none ∧ b ≠ a := by
 by_cases e : b = a
 ·subst e; rw [Sto.set_self] at h; exact sn h
 ·rw [Sto.set_ne _ _ e] at h; exact ⟨h, e⟩
section
variable (C : Cx) (n : Nat) (bx cs : Addr)
noncomputable def OneC (deep : Nat) : Prop := ∀ {A : Around} {σ : Sto} {top : Bool} {Q : MV → Sto → Prop}, Bud A (n + 4 * deep + 2) → BX σ bx cs →
 (∀ v t σ', Ext bx cs σ σ' → TR (fr σ σ') t [v] → okT top t → dep t ≤ deep → sz t ≤ gsz deep → Q v σ') → CALLC C A (.ref 324) [.ref bx, .int deep, .bool top] σ Q
noncomputable def SomeC (deep : Nat) : Prop := ∀ {A : Around} {σ : Sto} {top : Bool} {Q : MV → Sto → Prop}, Bud A (n + 4 * deep + 4) → BX σ bx cs →
 (∀ d xs t σ', Ext bx cs σ σ' → fr σ σ' d = some (.list xs) → TR (fr σ σ') t xs → okT top t → dep t ≤ deep → sz t ≤ 2 * gsz deep → Q (.ref d) σ') → CALLC C A (.ref 317) [.ref bx, .int deep, .bool top] σ Q
end
section
variable {C : Cx} (hK : PK C) {n : Nat} {bx cs : Addr}
include hK
theorem some_of_one {deep : Nat} (one : OneC C n bx cs deep) : SomeC C n bx cs deep := by
 intro A σ top Q b hb h
 refine runFn hK (f := 317) ["box", "deep", "is_top"] (fun U => rfl) (fun U => rfl) rfl rfl (ar3 fun U U U => rfl) rfl rfl b fun FF e1 e2 hK b' => ?_
 subst e1 e2
 walk_at "S"
 walk_at "a"
 walk_at "S"
 refine CALL_range fun d t u v hd => ?_
 refine ITR_range (n := 2) (by lia) (Sto.set_self ..) ⟨rfl, fun acc L2 hacc => ?_⟩
 generalize hrg : MO.raw { cls := Value.type "range", data := Data.fields #[Value.int 0 t, Value.int 2 u, Value.int 1 v] } = rg at hacc ⊢
 have s1 : Sub σ ((σ.set d rg).set acc (.list [])) := (Sub.new hd).trans (Sub.new hacc)
 have x1 : Ext bx cs σ ((σ.set d rg).set acc (.list [])) := Ext.sub hb s1
 have eacc : ((σ.set d rg).set acc (.list [])) acc = some (.list []) := Sto.set_self ..
 have nacc := hb.fresh (set_dom hacc).1
 have sacc := (set_dom hacc).1
 generalize (σ.set d rg).set acc (.list []) = σ1 at s1 x1 eacc ⊢
 refine rCG b'.h (fun m hm => ?_) (fun hm => by lia)
 obtain rfl : m = 1 := by lia
 walk_at "a"
 walk_at "S"
 refine (one (b'.mono (by lia)) x1.b fun v1 t1 σ2 x2 tr1 ok1 dp1 sz1 => ?_).call
 have ea2 := x2.k _ _ nacc.1 nacc.2 eacc
 refine ⟨[], ea2, by simp, ?_⟩
 have b3 : BX (σ2.set acc (.list ([] ++ [v1]))) bx cs := by
  obtain ⟨ne, cells, k, h1, h2, h3⟩ := x2.b
  exact ⟨ne, cells, k, keep_ne (Ne.symm nacc.1) h1, keep_ne (Ne.symm nacc.2) h2, h3⟩
 have ea3 : (σ2.set acc (.list ([] ++ [v1]))) acc = some (.list [v1]) := Sto.set_self ..
 have k3 : ∀ a o, a ≠ acc → σ2 a = some o → (σ2.set acc (.list ([] ++ [v1]))) a = some o := fun a o ha e => keep_ne ha e
 have d3 : ∀ a, (σ2.set acc (.list ([] ++ [v1]))) a = none → σ2 a = none := fun a e => (set_dom e).1
 generalize σ2.set acc (.list ([] ++ [v1])) = σ3 at b3 ea3 k3 d3 ⊢
 refine rCG b'.h (fun m hm => ?_) (fun hm => by lia)
 obtain rfl : m = 0 := by lia
 walk_at "a"
 walk_at "S"
 refine (one (b'.mono (by lia)) b3 fun v2 t2 σ4 x4 tr2 ok2 dp2 sz2 => ?_).call
 have ea4 := x4.k _ _ nacc.1 nacc.2 ea3
 refine ⟨[v1], ea4, by simp, ?_⟩
 refine rCG b'.h (fun m hm => by lia) (fun U => ⟨fun p hp => ?_, ?_⟩)
 ·simp only [List.mem_cons, List.not_mem_nil, or_false] at hp
  rcases hp with rfl | rfl | rfl <;> rfl
 walk_at "S"
 have dom : ∀ a, σ1 a = none → σ a = none := fun a e => x1.dom e
 have k4 : ∀ a o, a ≠ acc → σ4 a = some o → (σ4.set acc (.list ([v1] ++ [v2]))) a = some o := fun a o ha e => keep_ne ha e
 have na : ∀ a, σ1 a = none → a ≠ acc := fun a e => by rintro rfl; exact sn (eacc.symm.trans e)
 refine h acc [v1, v2] (appT t1 t2) _ ⟨?_, fun a o h1 h2 e => ?_⟩ (fr_at.mpr ⟨sacc, Sto.set_self ..⟩) ?_ (app_ok ok1 ok2) (by rw [app_dep]; lia) (by rw [app_sz]; lia)
 ·obtain ⟨ne, cells, k, h1, h2, h3⟩ := x4.b
  exact ⟨ne, cells, k, keep_ne (Ne.symm nacc.1) h1, keep_ne (Ne.symm nacc.2) h2, h3⟩
 ·have ha : a ≠ acc := by rintro rfl; exact nn (sacc.symm.trans e)
  exact k4 a o ha (x4.k a o h1 h2 (k3 a o ha (x2.k a o h1 h2 (x1.k a o h1 h2 e))))
 ·refine TR.app (xs := [v1]) (tr1.mono (fr_mono dom fun a o e1 e2 => ?_)) (tr2.mono (fr_mono (fun a e => dom a (x2.dom (d3 a e))) fun a o e1 e2 => k4 a o ?_ e2))
  ·refine xe02 (x1.b.fresh e1) fun f1 f2 => ?_
   exact k4 a o (na a e1) (x4.k a o f1 f2 (k3 a o (na a e1) e2))
  ·exact na a (x2.dom (d3 a e1))
end
end
section
section
variable {bx cs : Addr} {σ σ1 σ2 σF : Sto}
theorem Ext.lift (x1 : Ext bx cs σ σ1) (x2 : Ext bx cs σ2 σF) : Sub (fr σ1 σ2) (fr σ σF) :=
 fr_mono (fun U e => x1.dom e) fun a o e1 e2 => x2.k a o (x1.b.fresh e1).1 (x1.b.fresh e1).2 e2
theorem Ext.new {d : Addr} {o : MO} (x : Ext bx cs σ σ1) (hd : σ1 d = none) (xF : Ext bx cs (σ1.set d o) σF) : fr σ σF d = some o :=
 fr_at.mpr ⟨x.dom hd, xF.k d o (x.b.fresh hd).1 (x.b.fresh hd).2 (Sto.set_self ..)⟩
theorem Ext.set {d : Addr} {o : MO} (x : Ext bx cs σ σ1) (hd : σ1 d = none) : Ext bx cs σ (σ1.set d o) := x.trans (Ext.sub x.b (Sub.new hd))
theorem Ext.refl (b : BX σ bx cs) : Ext bx cs σ σ := ⟨b, fun U U U U e => e⟩
end
theorem rds_ints {σ : Sto} : ∀ (l : List Int), RDs σ (l.map .int) (l.map .int)
 | [] => .nil
 | i :: l => .cons (.int i) (rds_ints l)
theorem lay_ints : ∀ (l : List Int), PyData.canLayAll0 (l.map .int) = true
 | [] => rfl
 | i :: l => by simp [PyData.canLayAll0, PyData.canLay0, lay_ints l]
theorem dep_ints : ∀ (l : List Int), (PyData.list (l.map .int)).depth ≤ 2
 | [] => by decide
 | i :: l => by
  have := dep_ints l
  simp only [PyData.depth, List.map_cons, PyData.depthAll] at this ⊢
  lia
section
variable {C : Cx} (hK : PK C) {n : Nat} {bx cs : Addr}
include hK
theorem one_of_some {deep : Nat} (hdp : deep ≤ 10) (hsm : ∀ d, deep = d + 1 → SomeC C n bx cs d) : OneC C n bx cs deep := by
 intro A σ top Q b hb h
 obtain ⟨ne, cells, k, h1, h2, h3, h4, h5⟩ := id hb
 refine runFn hK (f := 324) ["box", "deep", "is_top"] (fun U => rfl) (fun U => rfl) rfl rfl (ar3 fun U U U => rfl) rfl rfl b fun FF e1 e2 hK b' => ?_
 subst e1 e2
 walk_at "S"
 refine SUB_list h1 (by decide) (by decide) rfl ?_
 walk_at "S"
 refine ⟨by simp, fun z hz => ?_⟩
 refine CMP_eq_rd (.list (keep_new hz h2) (rds_ints cells)) (.list (Sto.set_self ..) .nil) (by simp [PyData.canLay0, lay_ints]) rfl b' (by have := dep_ints cells; lia) ?_
 walk_at "S"
 have x1 : Ext bx cs σ (σ.set z (.list [])) := (Ext.refl hb).set hz
 have h1 := keep_new (x := .list []) hz h1
 have h2 := keep_new (x := .list []) hz h2
 generalize σ.set z (.list []) = σ1 at x1 h1 h2 ⊢
 cases cells with
 | nil =>
  refine if_t ?_
  walk_at "S"
  refine SUB_list h1 (by decide) (by decide) rfl ?_
  walk_at "S"
  refine SETI_list h1 (by decide) (by decide) (by simp) ?_
  have e1 : (σ1.set bx (.list [.ref cs, .int (k + 1)])) bx = Option.some (.list [.ref cs, .int (k + 1)]) := Sto.set_self ..
  have x2 : Ext bx cs σ (σ1.set bx (.list [.ref cs, .int (k + 1)])) := x1.trans ⟨⟨ne, [], k + 1, e1, keep_ne (Ne.symm ne) h2, h3, by lia, h5⟩, fun a o n1 n2 e => keep_ne n1 e⟩
  rw [show [MV.ref cs, MV.int k].set (1 : Int).toNat (.int (k + 1)) = [.ref cs, .int (k + 1)] from rfl]
  generalize σ1.set bx (.list [.ref cs, .int (k + 1)]) = σ2 at x2 e1 ⊢
  walk_at "S"
  refine SUB_list e1 (by decide) (by decide) rfl ?_
  walk_at "S"
  refine BIN_mod (by decide) ?_
  refine xe11 (mod5 (k + 1)) fun x hx => ?_
  rw [hx]
  walk_at "S"
  refine ⟨by simp, fun p hp => ?_⟩
  have x3 := x2.set (o := .list []) hp
  walk_at "S"
  refine ⟨by simp, fun q hq => ?_⟩
  have x4 := x3.set (o := .list []) hq
  walk_at "S"
  refine ⟨by simp, fun t ht => ?_⟩
  walk_at "S"
  have xF := x4.set (o := .tuple [.str "use", iv x, .none, .ref p, .ref q]) ht
  refine h _ (.use x .nil) _ xF (.use (x4.new ht (Ext.refl xF.b)) (x2.new hp ((Ext.sub x3.b (Sub.new hq)).trans (Ext.sub x4.b (Sub.new ht)))) (x3.new hq (Ext.sub x4.b (Sub.new ht))) .nil) trivial (Nat.zero_le _) (by have := gsz2 deep; simp only [szE]; lia)
 | cons c r =>
  refine if_f ?_
  walk_at "S"
  refine SUB_list h1 (by decide) (by decide) rfl ?_
  refine METH_pop h2 ?_
  walk_at "S"
  have hc := h3 c (List.mem_cons_self ..)
  refine CALL_popAt (xs := []) (ys := r.map .int) h2 rfl (by simp at h5 ⊢; lia) ?_
  rw [List.nil_append]
  have x2 : Ext bx cs σ (σ1.set cs (.list (r.map .int))) := x1.trans ⟨⟨ne, r, k, keep_ne ne h1, Sto.set_self .., fun y hy => h3 y (List.mem_cons_of_mem _ hy), h4, by simp at h5; lia⟩, fun a o n1 n2 e => keep_ne n2 e⟩
  generalize σ1.set cs (.list (r.map .int)) = σ2 at x2 ⊢
  walk_at "S"
  with_reducible refine rSwap (names := [Str.ofString "form", Str.ofString "name", Str.ofString "rest"]) b'.h ?_ (by walk_at "=i") (by walk_at "=T") (by walk_at "=s")
  walk_at "r"
  refine RE.mono (fun v σ' => σ' = σ2 ∧ ∃ f : Int, v = .int f ∧ 0 ≤ f ∧ f ≤ 4 ∧ (deep = 0 → f ≤ 1)) ?_ ?_
  ·walk_at "S"
   refine if_b (fun hd => ?_) (fun hd => ?_)
   ·walk_at "S"
    refine BIN_mod (by decide) ⟨rfl, _, rfl, ?_⟩
    have hd : 0 < (deep : Int) := of_decide_eq_true hd
    rw [fm (by lia)]
    lia
   ·walk_at "S"
    have hd : ¬ 0 < (deep : Int) := of_decide_eq_false hd
    refine BIN_mod (by decide) ⟨rfl, _, rfl, ?_⟩
    rw [fm (by lia)]
    lia
  rintro _ σ2' ⟨e2, f, rfl, f0, f4, fd0⟩
  rw [e2]
  clear e2 σ2'
  walk_at "S"
  refine BIN_div (by decide) (by decide) ?_
  walk_at "S"
  refine BIN_mod (by decide) ?_
  refine xe12 (mod4 (c.fdiv 5)) fun x hx4 hx => ?_
  rw [hx]
  walk_at "S"
  refine BIN_div (by decide) (by decide) ?_
  walk_at "S"
  refine ⟨rfl, by decide, ?_⟩
  generalize hR : c.fdiv 20 = R
  rw [show setMany (setL ([(Str.ofString "box"), Str.ofString "deep", Str.ofString "is_top"].zip [MV.ref bx, MV.int (deep : Int), MV.bool top]) (Str.ofString "cell") (MV.int c)) [(Str.ofString "form"), Str.ofString "name", Str.ofString "rest"].reverse [MV.int f, iv x, MV.int R].reverse = setL (setL (setL (setL ([(Str.ofString "box"), Str.ofString "deep", Str.ofString "is_top"].zip [MV.ref bx, MV.int (deep : Int), MV.bool top]) (Str.ofString "cell") (MV.int c)) "rest" (.int R)) "name" (iv x)) "form" (.int f) from rfl]
  generalize hρ : setL (setL (setL (setL ([(Str.ofString "box"), Str.ofString "deep", Str.ofString "is_top"].zip [MV.ref bx, MV.int (deep : Int), MV.bool top]) (Str.ofString "cell") (MV.int c)) "rest" (.int R)) "name" (iv x)) "form" (.int f) = ρ
  have p1 : LK ρ "form" (.int f) := by subst hρ; exact look_eq
  have p2 : LK ρ "name" (iv x) := by subst hρ; exact look_ne (by walk_at "f") look_eq
  have p3 : LK ρ "rest" (.int R) := by subst hρ; exact look_ne (by walk_at "f") (look_ne (by walk_at "f") look_eq)
  have p4 : LK ρ "cell" (.int c) := by subst hρ; exact look_ne (by walk_at "f") (look_ne (by walk_at "f") (look_ne (by walk_at "f") look_eq))
  have p5 : LK ρ "box" (.ref bx) := by subst hρ; rfl
  have p6 : LK ρ "deep" (.int (deep : Int)) := by subst hρ; rfl
  have p7 : LK ρ "is_top" (.bool top) := by subst hρ; rfl
  clear hρ
  have g2 := gsz2 deep
  walk_at "S"
  by_cases q0 : f = 0
  ·subst q0
   walk_at "S"
   refine if_t ?_
   walk_at "S"
   refine BIN_div (by decide) (by decide) ?_
   walk_at "S"
   refine BIN_mod (by decide) ?_
   refine xe11 (mod5 (c.fdiv 5)) fun y hy => ?_
   rw [hy]
   walk_at "S"
   refine ⟨by simp, fun p hp => ?_⟩
   have x3 := x2.set (o := .list []) hp
   walk_at "S"
   refine ⟨by simp, fun q hq => ?_⟩
   have x4 := x3.set (o := .list []) hq
   walk_at "S"
   refine ⟨by simp, fun t ht => ?_⟩
   walk_at "S"
   have xF := x4.set (o := .tuple [.str "use", iv y, .none, .ref p, .ref q]) ht
   exact h _ (.use y .nil) _ xF (.use (x4.new ht (Ext.refl xF.b)) (x2.new hp ((Ext.sub x3.b (Sub.new hq)).trans (Ext.sub x4.b (Sub.new ht)))) (x3.new hq (Ext.sub x4.b (Sub.new ht))) .nil) trivial (Nat.zero_le _) (by simp only [szE]; lia)
  rw [show (f == 0) = false from beq_eq_false_iff_ne.mpr q0]
  refine if_f ?_
  walk_at "S"
  by_cases q1 : f = 1
  ·subst q1
   walk_at "S"
   refine if_t ?_
   walk_at "S"
   refine BIN_mod (by decide) ?_
   refine xe11 (mod5 R) fun y hy => ?_
   rw [hy]
   walk_at "S"
   refine ⟨by simp, fun p hp => ?_⟩
   have x3 := x2.set (o := .list []) hp
   walk_at "S"
   refine ⟨by simp, fun q hq => ?_⟩
   have x4 := x3.set (o := .list []) hq
   walk_at "S"
   refine ⟨by simp, fun t ht => ?_⟩
   walk_at "S"
   have xF := x4.set (o := .tuple [.str "var", iv x, iv y, .ref p, .ref q]) ht
   exact h _ (.var x y .nil) _ xF (.var (x4.new ht (Ext.refl xF.b)) (x2.new hp ((Ext.sub x3.b (Sub.new hq)).trans (Ext.sub x4.b (Sub.new ht)))) (x3.new hq (Ext.sub x4.b (Sub.new ht))) .nil) ⟨hx4, trivial⟩ (Nat.zero_le _) (by simp only [szE]; lia)
  rw [show (f == 1) = false from beq_eq_false_iff_ne.mpr q1]
  refine if_f ?_
  walk_at "S"
  have hd1 : deep ≠ 0 := fun e => by have := fd0 e; lia
  obtain ⟨d, rfl⟩ : ∃ d, deep = d + 1 := ⟨deep - 1, by lia⟩
  have sm : SomeC FF.C n bx cs d := hsm d rfl
  by_cases q4 : f = 4
  ·subst q4
   walk_at "S"
   refine if_t ?_
   walk_at "S"
   rw [show ((d + 1 : Nat) : Int) - 1 = (d : Int) by lia]
   refine (sm (b'.mono (by lia)) x2.b fun d1 xs1 t1 σ3 x3 e1 tr1 ok1 dp1 sz1 => ?_).call
   walk_at "S"
   rw [show ((d + 1 : Nat) : Int) - 1 = (d : Int) by lia]
   refine (sm (b'.mono (by lia)) x3.b fun d2 xs2 t2 σ4 x4 e2 tr2 ok2 dp2 sz2 => ?_).call
   walk_at "S"
   refine ⟨by simp, fun t ht => ?_⟩
   walk_at "S"
   have x03 := x2.trans x3
   have x04 := x03.trans x4
   have xF := x04.set (o := .tuple [.str "try", iv x, .none, .ref d1, .ref d2]) ht
   have x4F : Ext bx cs σ4 (σ4.set t (.tuple [.str "try", iv x, .none, .ref d1, .ref d2])) := Ext.sub x04.b (Sub.new ht)
   have l1 := Ext.lift x2 (x4.trans x4F)
   have l2 := Ext.lift x03 x4F
   exact h _ (.tr x t1 t2 .nil) _ xF (.tr (x04.new ht (Ext.refl xF.b)) (l1 _ _ e1) (l2 _ _ e2) (tr1.mono l1) (tr2.mono l2) .nil) ⟨hx4, ok1, ok2, trivial⟩ (by simp only [depE]; lia) (by simp only [szE, gsz]; lia)
  rw [show (f == 4) = false from beq_eq_false_iff_ne.mpr q4]
  refine if_f ?_
  walk_at "s"
  walk_at "s"
  refine RE.mono (fun v σ' => ∃ (p : Addr) (ps : List N), v = .ref p ∧ fr σ σ' p = Option.some (.list (ps.map iv)) ∧ Ext bx cs σ σ' ∧ (4 : N) ∉ ps ∧ ps.length ≤ 2) ?_ ?_
  ·refine xe12 (mod4 R) fun u hu4 hu => ?_
   refine xe12 (mod4 (R.fdiv 4)) fun u2 hu42 hu2 => ?_
   walk_at "S"
   refine ⟨by simp, fun l0 hl0 => ?_⟩
   have y0 := x2.set (o := .list []) hl0
   walk_at "S"
   refine BIN_mod (by decide) ?_
   rw [hu]
   walk_at "S"
   refine ⟨by simp, fun l1 hl1 => ?_⟩
   have y1 := y0.set (o := .list [iv u]) hl1
   walk_at "S"
   refine BIN_mod (by decide) ?_
   rw [hu]
   walk_at "S"
   refine BIN_div (by decide) (by decide) ?_
   walk_at "S"
   refine BIN_mod (by decide) ?_
   rw [hu2]
   walk_at "S"
   refine ⟨by simp, fun l2 hl2 => ?_⟩
   have y2 := y1.set (o := .list [iv u, iv u2]) hl2
   walk_at "S"
   refine ⟨by simp, fun l3 hl3 => ?_⟩
   have y3 := y2.set (o := .list [.ref l0, .ref l1, .ref l2]) hl3
   walk_at "S"
   refine BIN_mod (by decide) ?_
   have s3 : Ext bx cs _ _ := Ext.sub y2.b (Sub.new (o := .list [.ref l0, .ref l1, .ref l2]) hl3)
   have s2 : Ext bx cs _ _ := Ext.sub y1.b (Sub.new (o := .list [iv u, iv u2]) hl2)
   have s1 : Ext bx cs _ _ := Ext.sub y0.b (Sub.new (o := .list [iv u]) hl1)
   have hm : R.fmod 3 = 0 ∨ R.fmod 3 = 1 ∨ R.fmod 3 = 2 := by rw [fm (by lia)]; lia
   rcases hm with hm | hm | hm
   ·rw [hm]
    refine SUB_list (Sto.set_self ..) (by decide) (by decide) rfl ?_
    exact ⟨l0, [], rfl, x2.new hl0 ((s1.trans s2).trans s3), y3, by simp, by simp⟩
   ·rw [hm]
    refine SUB_list (Sto.set_self ..) (by decide) (by decide) rfl ?_
    exact ⟨l1, [u], rfl, y0.new hl1 (s2.trans s3), y3, by simpa using Ne.symm hu4, by simp⟩
   ·rw [hm]
    refine SUB_list (Sto.set_self ..) (by decide) (by decide) rfl ?_
    exact ⟨l2, [u, u2], rfl, y1.new hl2 s3, y3, by simpa using ⟨Ne.symm hu4, Ne.symm hu42⟩, by simp⟩
  rintro _ σ3 ⟨p, ps, rfl, ep, x3, hp4, hpl⟩
  have p1' := p1.set (y := "told") (w := .ref p) (by decide)
  have p2' := p2.set (y := "told") (w := .ref p) (by decide)
  have p3' := p3.set (y := "told") (w := .ref p) (by decide)
  have p5' := p5.set (y := "told") (w := .ref p) (by decide)
  have p6' := p6.set (y := "told") (w := .ref p) (by decide)
  have p7' := p7.set (y := "told") (w := .ref p) (by decide)
  have p8' : LK (setL ρ "told" (.ref p)) "told" (.ref p) := look_eq
  walk_at "s"
  refine rTup ?_
  walk_at "r"
  refine RE.mono (fun v σ' => σ' = σ3 ∧ ∃ dd : Bool, v = .str (if dd then "decl" else "expr") ∧ (dd = true → top = true)) ?_ ?_
  ·walk_at "S"
   by_cases q2 : f = 2
   ·subst q2
    walk_at "S"
    refine if_t ?_
    walk_at "S"
    refine if_b (fun ht => ?_) (fun ht => ?_)
    ·walk_at "S"
     exact ⟨rfl, true, rfl, fun U => ht⟩
    ·walk_at "S"
     exact ⟨rfl, false, rfl, nofun⟩
   ·rw [show (f == 2) = false from beq_eq_false_iff_ne.mpr q2]
    refine if_f ?_
    walk_at "S"
    exact ⟨rfl, false, rfl, nofun⟩
  rintro _ σ3' ⟨e3, dd, rfl, hdd⟩
  rw [e3]
  clear e3 σ3'
  walk_at "S"
  refine BIN_div (by decide) (by decide) ?_
  walk_at "S"
  refine BIN_mod (by decide) ?_
  walk_at "S"
  refine ⟨by simp, fun q hq => ?_⟩
  have x4 := x3.set (o := .tuple [.ref p, .bool ((R.fdiv 16).fmod 2 == 1)]) hq
  have s4 : Ext bx cs σ3 (σ3.set q (.tuple [.ref p, .bool ((R.fdiv 16).fmod 2 == 1)])) := Ext.sub x3.b (Sub.new hq)
  walk_at "S"
  rw [show ((d + 1 : Nat) : Int) - 1 = (d : Int) by lia]
  refine (sm (b'.mono (by lia)) x4.b fun d1 xs1 t1 σ5 x5 e1 tr1 ok1 dp1 sz1 => ?_).call
  walk_at "S"
  refine ⟨by simp, fun e hee => ?_⟩
  have x05 := x4.trans x5
  have x6 := x05.set (o := .list []) hee
  have s6 : Ext bx cs σ5 (σ5.set e (.list [])) := Ext.sub x05.b (Sub.new hee)
  walk_at "S"
  refine ⟨by simp, fun t ht => ?_⟩
  walk_at "S"
  have xF := x6.set (o := .tuple [.str (if dd then "decl" else "expr"), iv x, .ref q, .ref d1, .ref e]) ht
  have sF : Ext bx cs (σ5.set e (.list [])) _ := Ext.sub x6.b (Sub.new (o := .tuple [.str (if dd then "decl" else "expr"), iv x, .ref q, .ref d1, .ref e]) ht)
  have l1 := Ext.lift x4 (s6.trans sF)
  refine h _ (.fn dd x ps ((R.fdiv 16).fmod 2 == 1) t1 .nil) _ xF (.fn (x6.new ht (Ext.refl xF.b)) (x3.new hq (x5.trans (s6.trans sF))) (Ext.lift (Ext.refl hb) (s4.trans (x5.trans (s6.trans sF))) _ _ ep) (l1 _ _ e1) (x05.new hee sF) (tr1.mono l1) .nil) ⟨hx4, hp4, hpl, hdd, ok1, trivial⟩ (by simp only [depE]; lia) (by have := gsz2 d; simp only [szE, gsz]; lia)
theorem someAll : ∀ deep, deep ≤ 10 → SomeC C n bx cs deep
 | 0, h => some_of_one hK (one_of_some hK h fun d e => by cases e)
 | d + 1, h => some_of_one hK (one_of_some hK h fun d' e => by cases e; exact someAll d (by lia))
end
end
section
noncomputable def own4 (x : N) : List N := if x = 4 then [4] else []
noncomputable def ownL : T → List N
 | .nil => []
 | .use x r => own4 x ++ ownL r
 | .var x y r => x :: own4 y ++ ownL r
 | .tr _ i o r => (ownL i ++ ownL o) ++ ownL r
 | .fn d x _ _ _ r => (if d then [x] else []) ++ ownL r
theorem ownLE : (ownL .nil = ([])) ∧ (∀ x r, ownL (.use x r) = (own4 x ++ ownL r)) ∧ (∀ x y r, ownL (.var x y r) = (x :: own4 y ++ ownL r)) ∧ (∀ u1 i o r, ownL (.tr u1 i o r) = ((ownL i ++ ownL o) ++ ownL r)) ∧ (∀ d x u1 u2 u3 r, ownL (.fn d x u1 u2 u3 r) = ((if d then [x] else []) ++ ownL r)) := ⟨rfl, fun U U => rfl, fun U U U => rfl, fun U U U U => rfl, fun U U U U U U => rfl⟩
theorem iv4 (x : N) : (((x.val : Nat) : Int) == 4) = decide (x = 4) := by
 by_cases h : x = 4
 ·subst h; rfl
 ·rw [decide_eq_false h, beq_eq_false_iff_ne]
  intro e
  exact h (Fin.ext (by show x.val = 4; lia))
theorem ownL_len : ∀ t : T, (ownL t).length ≤ sz t
 | .nil => Nat.le_refl _
 | .use x r => by have := ownL_len r; simp only [ownLE, szE, own4, List.length_append]; split <;> simp <;> lia
 | .var x y r => by have := ownL_len r; simp only [ownLE, szE, own4, List.length_append, List.length_cons]; split <;> simp <;> lia
 | .tr _ i o r => by have := ownL_len r; have := ownL_len i; have := ownL_len o; simp only [ownLE, szE, List.length_append]; lia
 | .fn d x _ _ b r => by have := ownL_len r; simp only [ownLE, szE, List.length_append]; split <;> simp <;> lia
section
variable {Λ : Sto} {P : Loc → Prop} {R : Nat → Loc → List N → Prop} {xs : List MV}
theorem drop_step {l : List MV} {i : Nat} {v : MV} {r : List MV} (h : l.drop i = v :: r) : l[i]? = some v ∧ l.drop (i + 1) = r ∧ i < l.length := by
 have hlt : i < l.length := by
  apply Classical.byContradiction
  intro q
  rw [List.drop_of_length_le (by lia)] at h
  cases h
 rw [List.drop_eq_getElem_cons hlt, List.cons.injEq] at h
 exact ⟨by rw [List.getElem?_eq_getElem hlt, h.1], h.2, hlt⟩
theorem own_loop' {D : Nat} (hUse : ∀ (i : Nat) (ρ : Loc) (X : List N) (x : N) (a e1 e2 : Addr), P ρ → X.length ≤ 1000 → xs[i]? = some (.ref a) → Λ a = some (.tuple [.str "use", iv x, .none, .ref e1, .ref e2]) → (∀ ρ', P ρ' → R (i + 1) ρ' (X ++ own4 x)) → R i ρ X)
  (hVar : ∀ (i : Nat) (ρ : Loc) (X : List N) (x y : N) (a e1 e2 : Addr), P ρ → X.length ≤ 1000 → xs[i]? = some (.ref a) → Λ a = some (.tuple [.str "var", iv x, iv y, .ref e1, .ref e2]) → (∀ ρ', P ρ' → R (i + 1) ρ' ((X ++ [x]) ++ own4 y)) → R i ρ X)
  (hTr : ∀ (i : Nat) (ρ : Loc) (X : List N) (x : N) (a e1 e2 : Addr) (ti to : T) (xi xo : List MV), P ρ → X.length ≤ 1000 → xs[i]? = some (.ref a) → Λ a = some (.tuple [.str "try", iv x, .none, .ref e1, .ref e2]) → Λ e1 = some (.list xi) → Λ e2 = some (.list xo) → TR Λ ti xi → TR Λ to xo → dep ti + 1 ≤ D → dep to + 1 ≤ D → sz ti ≤ 400 → sz to ≤ 400 →
   (∀ ρ', P ρ' → R (i + 1) ρ' (X ++ (ownL ti ++ ownL to))) → R i ρ X)
  (hFn : ∀ (i : Nat) (ρ : Loc) (X : List N) (d : Bool) (x : N) (a q e1 e2 : Addr), P ρ → X.length ≤ 1000 → xs[i]? = some (.ref a) → Λ a = some (.tuple [.str (if d then "decl" else "expr"), iv x, .ref q, .ref e1, .ref e2]) → (∀ ρ', P ρ' → R (i + 1) ρ' (X ++ if d then [x] else [])) → R i ρ X) :
  ∀ {t : T} {ys : List MV}, TR Λ t ys → ∀ (i : Nat) (ρ : Loc) (X : List N), xs.drop i = ys → P ρ → dep t ≤ D → sz t ≤ 400 → X.length + sz t ≤ 1000 → (∀ ρ', P ρ' → R xs.length ρ' (X ++ ownL t)) → i ≤ xs.length → R i ρ X := by
 intro t ys h
 induction h with
 | nil =>
  intro i ρ X hd p _ _ _ k hi
  have : i = xs.length := by
   have := congrArg List.length hd
   rw [List.length_drop, List.length_nil] at this; lia
  subst this
  have := k ρ p
  rwa [ownL, List.append_nil] at this
 | @use x r zs a e1 e2 h h1 h2 hr ih =>
  intro i ρ X hd p dp s1 s2 k hi
  refine xe03 (drop_step hd) fun d1 d2 d3 => ?_
  simp only [depE, szE] at dp s1 s2
  refine hUse i ρ X x a e1 e2 p (by lia) d1 h fun ρ' p' => ih (i + 1) ρ' _ d2 p' dp (by lia) (by rw [List.length_append]; unfold own4; split <;> simp <;> lia) (fun ρ2 p2 => ?_) d3
  rw [List.append_assoc]; exact k ρ2 p2
 | @var x y r zs a e1 e2 h h1 h2 hr ih =>
  intro i ρ X hd p dp s1 s2 k hi
  refine xe03 (drop_step hd) fun d1 d2 d3 => ?_
  simp only [depE, szE] at dp s1 s2
  refine hVar i ρ X x y a e1 e2 p (by lia) d1 h fun ρ' p' => ih (i + 1) ρ' _ d2 p' dp (by lia) (by simp only [List.length_append, List.length_singleton]; unfold own4; split <;> simp <;> lia) (fun ρ2 p2 => ?_) d3
  have := k ρ2 p2
  rw [List.append_assoc, List.append_assoc]; exact this
 | @tr x ti to r zs xi xo a e1 e2 h h1 h2 hi' ho hr _ _ ih =>
  intro i ρ X hd p dp s1 s2 k hi
  refine xe03 (drop_step hd) fun d1 d2 d3 => ?_
  simp only [depE, szE] at dp s1 s2
  have l1 := ownL_len ti
  have l2 := ownL_len to
  refine hTr i ρ X x a e1 e2 ti to xi xo p (by lia) d1 h h1 h2 hi' ho (by lia) (by lia) (by lia) (by lia) fun ρ' p' => ih (i + 1) ρ' _ d2 p' (by lia) (by lia) (by simp only [List.length_append]; lia) (fun ρ2 p2 => ?_) d3
  rw [List.append_assoc]; exact k ρ2 p2
 | @fn d x ps st b r zs xb a q p' e1 e2 h hq hp h1 h2 hb hr _ ih =>
  intro i ρ X hd p dp s1 s2 k hi
  refine xe03 (drop_step hd) fun d1 d2 d3 => ?_
  simp only [depE, szE] at dp s1 s2
  refine hFn i ρ X d x a q e1 e2 p (by lia) d1 h fun ρ' p' => ih (i + 1) ρ' _ d2 p' (by lia) (by lia) (by rw [List.length_append]; split <;> simp <;> lia) (fun ρ2 p2 => ?_) d3
  rw [List.append_assoc]; exact k ρ2 p2
end
structure ST (σ : Sto) (fo : Addr) (X : List N) (τ : Sto) : Prop where
 f : τ fo = some (.list (X.map iv))
 s : Sub σ τ
theorem ST.new {σ τ : Sto} {fo d : Addr} {X : List N} {o : MO} (h : ST σ fo X τ) (hd : τ d = none) : ST σ fo X (τ.set d o) := ⟨keep_new hd h.f, h.s.trans (Sub.new hd)⟩
theorem ST.app {σ τ : Sto} {fo : Addr} {X Y : List N} (hf : σ fo = none) (h : ST σ fo X τ) : ST σ fo (X ++ Y) (τ.set fo (.list (X.map iv ++ Y.map iv))) := ⟨by rw [Sto.set_self, List.map_append], sub_off h.s hf⟩
theorem ST.fin {σ τ : Sto} {fo : Addr} {X : List N} (h : ST σ fo X τ) : ∀ a o, (σ.set fo (.list (X.map iv))) a = some o → τ a = some o := fun a o e => by
 by_cases q : a = fo
 ·subst q; rw [Sto.set_self] at e; obtain rfl := si e; exact h.f
 ·rw [Sto.set_ne _ _ q] at e; exact h.s _ _ e
section
variable {C : Cx} (hK : PK C) {n : Nat} {Λ : Sto}
include hK
theorem own_C : ∀ (D : Nat) {A : Around} {σ : Sto} {t : T} {xs : List MV} {p : Addr} {Q : MV → Sto → Prop}, Bud A (n + 2 * D + 2) → TR Λ t xs → Sub Λ σ → Λ p = some (.list xs) → dep t ≤ D → sz t ≤ 400 → (∀ d, σ d = none → Q (.ref d) (σ.set d (.list ((ownL t).map iv)))) → CALLC C A (.ref 331) [.ref p] σ Q := by
 intro D
 induction D using Nat.strongRecOn with
 | ind D IH =>
 intro A σ t xs p Q b tr sub ep hdp hsz h
 refine runFn hK (f := 331) ["some"] (fun U => rfl) (fun U => rfl) rfl rfl (ar1 fun U => rfl) rfl rfl b fun FF e1 e2 hK b' => ?_
 subst e1 e2
 walk_at "S"
 refine ⟨by simp, fun fo hfo => ?_⟩
 walk_at "S"
 have subT : ∀ X, Sub Λ (σ.set fo (.list X)) := fun X => sub.trans (Sub.new hfo)
 refine ITR_list (subT _ _ _ ep) ?_
 have st0 : ∀ X, ST σ fo X (σ.set fo (.list (X.map iv))) := fun X => ⟨Sto.set_self .., Sub.new hfo⟩
 refine own_loop' (Λ := Λ) (D := D) (xs := xs) (P := fun ρ => LK ρ "found" (.ref fo)) (R := fun i ρ X => RF _ _ _ _ _ (.list p i) FF ρ (σ.set fo (.list (X.map iv)))) ?_ ?_ ?_ ?_ tr 0 _ [] (List.drop_zero) (by rfl) hdp hsz (by simp only [List.length_nil]; lia) ?_ (Nat.zero_le _)
 ·intro i ρ X x a e1 e2 l1 hX hi ha k
  refine rFL b'.h (subT _ _ _ ep) (fun v hv => ?_) (fun hn => by exact sn (hi.symm.trans hn))
  obtain rfl := si (hi.symm.trans hv)
  refine rAT b'.h (subT _ _ _ ha) ?_ (by walk_at "=i") (by walk_at "=o")
  walk_at "a"
  walk_at "a"
  walk_at "a"
  walk_at "a"
  walk_at "a"
  walk_at "a"
  have st := st0 X
  have lf : ∀ {a b c d e : MV}, LK (setL (setL (setL (setL (setL ρ "kind" a) "name" b) "rest" c) "inner" d) "other" e) "found" (.ref fo) := fun {a b c d e} => ((((l1.set (by walk_at "f")).set (by walk_at "f")).set (by walk_at "f")).set (by walk_at "f")).set (by walk_at "f")
  generalize σ.set fo (.list (X.map iv)) = τ at st ⊢
  walk_at "S"
  refine ⟨by simp, fun tt htt => ?_⟩
  have st := st.new (o := .tuple [.str "var", .str "decl"]) htt
  refine CMP_in_tstrs (xs := ["var", "decl"]) (Sto.set_self ..) ?_
  generalize τ.set tt (.tuple [.str "var", .str "decl"]) = τ at st ⊢
  rw [show ([Str.ofString "var", Str.ofString "decl"].contains (Str.ofString "use")) = false by decide]
  walk_at "S"
  walk_at "S"
  rw [iv4]
  by_cases hx : x = 4
  ·subst hx
   rw [decide_eq_true rfl]
   walk_at "S"
   refine METH_append st.f ?_
   walk_at "S"
   refine CALL_append st.f (by rw [List.length_map]; (try simp only [List.length_append, List.length_singleton]); lia) ?_
   have st : ST σ fo (X ++ [4]) (τ.set fo (.list (List.map iv X ++ [MV.int 4]))) := st.app (Y := [4]) hfo
   generalize τ.set fo (.list (List.map iv X ++ [MV.int 4])) = τ at st ⊢
   walk_at "S"
   walk_at "S"
   rw [own4, if_pos rfl] at k
   exact FORL.sub st.fin (k _ lf)
  ·rw [decide_eq_false hx]
   walk_at "S"
   walk_at "S"
   walk_at "S"
   rw [own4, if_neg hx, List.append_nil] at k
   exact FORL.sub st.fin (k _ lf)
 ·intro i ρ X x y a e1 e2 l1 hX hi ha k
  refine rFL b'.h (subT _ _ _ ep) (fun v hv => ?_) (fun hn => by exact sn (hi.symm.trans hn))
  obtain rfl := si (hi.symm.trans hv)
  refine rAT b'.h (subT _ _ _ ha) ?_ (by walk_at "=i") (by walk_at "=o")
  walk_at "a"
  walk_at "a"
  walk_at "a"
  walk_at "a"
  walk_at "a"
  walk_at "a"
  have st := st0 X
  have lf : ∀ {a b c d e : MV}, LK (setL (setL (setL (setL (setL ρ "kind" a) "name" b) "rest" c) "inner" d) "other" e) "found" (.ref fo) := fun {a b c d e} => ((((l1.set (by walk_at "f")).set (by walk_at "f")).set (by walk_at "f")).set (by walk_at "f")).set (by walk_at "f")
  generalize σ.set fo (.list (X.map iv)) = τ at st ⊢
  walk_at "S"
  refine ⟨by simp, fun tt htt => ?_⟩
  have st := st.new (o := .tuple [.str "var", .str "decl"]) htt
  refine CMP_in_tstrs (xs := ["var", "decl"]) (Sto.set_self ..) ?_
  generalize τ.set tt (.tuple [.str "var", .str "decl"]) = τ at st ⊢
  rw [show ([Str.ofString "var", Str.ofString "decl"].contains (Str.ofString "var")) = true by decide]
  walk_at "S"
  refine METH_append st.f ?_
  walk_at "S"
  refine CALL_append st.f (by rw [List.length_map]; (try simp only [List.length_append, List.length_singleton]); lia) ?_
  have st : ST σ fo (X ++ [x]) (τ.set fo (.list (List.map iv X ++ [iv x]))) := st.app (Y := [x]) hfo
  generalize τ.set fo (.list (List.map iv X ++ [iv x])) = τ at st ⊢
  walk_at "S"
  walk_at "S"
  walk_at "S"
  rw [iv4]
  by_cases hx : y = 4
  ·subst hx
   rw [decide_eq_true rfl]
   walk_at "S"
   refine METH_append st.f ?_
   walk_at "S"
   refine CALL_append st.f (by rw [List.length_map]; (try simp only [List.length_append, List.length_singleton]); lia) ?_
   have st : ST σ fo ((X ++ [x]) ++ [4]) (τ.set fo (.list (List.map iv (X ++ [x]) ++ [MV.int 4]))) := st.app (Y := [4]) hfo
   generalize τ.set fo (.list (List.map iv (X ++ [x]) ++ [MV.int 4])) = τ at st ⊢
   walk_at "S"
   walk_at "S"
   rw [own4, if_pos rfl] at k
   exact FORL.sub st.fin (k _ lf)
  ·rw [decide_eq_false hx]
   walk_at "S"
   walk_at "S"
   rw [own4, if_neg hx, List.append_nil] at k
   exact FORL.sub st.fin (k _ lf)
 ·intro i ρ X x a e1 e2 ti to xi xo l1 hX hi ha he1 he2 tri tro d1 d2 s1 s2 k
  refine rFL b'.h (subT _ _ _ ep) (fun v hv => ?_) (fun hn => by exact sn (hi.symm.trans hn))
  obtain rfl := si (hi.symm.trans hv)
  refine rAT b'.h (subT _ _ _ ha) ?_ (by walk_at "=i") (by walk_at "=o")
  walk_at "a"
  walk_at "a"
  walk_at "a"
  walk_at "a"
  walk_at "a"
  walk_at "a"
  have st := st0 X
  have lf : ∀ {a b c d e : MV}, LK (setL (setL (setL (setL (setL ρ "kind" a) "name" b) "rest" c) "inner" d) "other" e) "found" (.ref fo) := fun {a b c d e} => ((((l1.set (by walk_at "f")).set (by walk_at "f")).set (by walk_at "f")).set (by walk_at "f")).set (by walk_at "f")
  generalize σ.set fo (.list (X.map iv)) = τ at st ⊢
  walk_at "S"
  refine ⟨by simp, fun tt htt => ?_⟩
  have st := st.new (o := .tuple [.str "var", .str "decl"]) htt
  refine CMP_in_tstrs (xs := ["var", "decl"]) (Sto.set_self ..) ?_
  generalize τ.set tt (.tuple [.str "var", .str "decl"]) = τ at st ⊢
  rw [show ([Str.ofString "var", Str.ofString "decl"].contains (Str.ofString "try")) = false by decide]
  walk_at "S"
  walk_at "S"
  walk_at "S"
  walk_at "S"
  refine METH_extend st.f ?_
  walk_at "S"
  have ln1 := ownL_len ti
  have ln2 := ownL_len to
  refine (IH (D - 1) (by lia) (b'.mono (by lia)) tri (sub.trans st.s) he1 (by lia) s1 fun r1 hr1 => ?_).call
  have st := st.new (o := .list ((ownL ti).map iv)) hr1
  have er1 : (τ.set r1 (.list ((ownL ti).map iv))) r1 = some (.list ((ownL ti).map iv)) := Sto.set_self ..
  generalize τ.set r1 (.list ((ownL ti).map iv)) = τ at st er1 ⊢
  walk_at "S"
  refine (IH (D - 1) (by lia) (b'.mono (by lia)) tro (sub.trans st.s) he2 (by lia) s2 fun r2 hr2 => ?_).call
  have st := st.new (o := .list ((ownL to).map iv)) hr2
  have er1 := keep_new (x := .list ((ownL to).map iv)) hr2 er1
  have er2 : (τ.set r2 (.list ((ownL to).map iv))) r2 = some (.list ((ownL to).map iv)) := Sto.set_self ..
  generalize τ.set r2 (.list ((ownL to).map iv)) = τ at st er1 er2 ⊢
  refine BIN_add_list er1 er2 (by simp only [List.length_map]; lia) fun r3 hr3 => ?_
  have st := st.new (o := .list ((ownL ti).map iv ++ (ownL to).map iv)) hr3
  have er3 : (τ.set r3 (.list ((ownL ti).map iv ++ (ownL to).map iv))) r3 = some (.list ((ownL ti).map iv ++ (ownL to).map iv)) := Sto.set_self ..
  generalize τ.set r3 (.list ((ownL ti).map iv ++ (ownL to).map iv)) = τ at st er3 ⊢
  walk_at "S"
  refine CALL_extend st.f er3 (by rw [List.length_map]; lia) (by simp only [List.length_append, List.length_map]; lia) ?_
  rw [← List.map_append]
  have st := st.app (Y := ownL ti ++ ownL to) hfo
  generalize τ.set fo (.list (List.map iv X ++ List.map iv (ownL ti ++ ownL to))) = τ at st ⊢
  walk_at "S"
  exact FORL.sub st.fin (k _ lf)
 ·intro i ρ X d x a q e1 e2 l1 hX hi ha k
  cases d with
  | true =>
   rw [if_pos rfl] at ha
   refine rFL b'.h (subT _ _ _ ep) (fun v hv => ?_) (fun hn => by exact sn (hi.symm.trans hn))
   obtain rfl := si (hi.symm.trans hv)
   refine rAT b'.h (subT _ _ _ ha) ?_ (by walk_at "=i") (by walk_at "=o")
   walk_at "a"
   walk_at "a"
   walk_at "a"
   walk_at "a"
   walk_at "a"
   walk_at "a"
   have st := st0 X
   have lf : ∀ {a b c d e : MV}, LK (setL (setL (setL (setL (setL ρ "kind" a) "name" b) "rest" c) "inner" d) "other" e) "found" (.ref fo) := fun {a b c d e} => ((((l1.set (by walk_at "f")).set (by walk_at "f")).set (by walk_at "f")).set (by walk_at "f")).set (by walk_at "f")
   generalize σ.set fo (.list (X.map iv)) = τ at st ⊢
   walk_at "S"
   refine ⟨by simp, fun tt htt => ?_⟩
   have st := st.new (o := .tuple [.str "var", .str "decl"]) htt
   refine CMP_in_tstrs (xs := ["var", "decl"]) (Sto.set_self ..) ?_
   generalize τ.set tt (.tuple [.str "var", .str "decl"]) = τ at st ⊢
   rw [show ([Str.ofString "var", Str.ofString "decl"].contains (Str.ofString "decl")) = true by decide]
   walk_at "S"
   refine METH_append st.f ?_
   walk_at "S"
   refine CALL_append st.f (by rw [List.length_map]; (try simp only [List.length_append, List.length_singleton]); lia) ?_
   have st : ST σ fo (X ++ [x]) (τ.set fo (.list (List.map iv X ++ [iv x]))) := st.app (Y := [x]) hfo
   generalize τ.set fo (.list (List.map iv X ++ [iv x])) = τ at st ⊢
   walk_at "S"
   walk_at "S"
   walk_at "S"
   walk_at "S"
   exact FORL.sub st.fin (k _ lf)
  | false =>
   rw [if_neg nofun] at ha
   refine rFL b'.h (subT _ _ _ ep) (fun v hv => ?_) (fun hn => by exact sn (hi.symm.trans hn))
   obtain rfl := si (hi.symm.trans hv)
   refine rAT b'.h (subT _ _ _ ha) ?_ (by walk_at "=i") (by walk_at "=o")
   walk_at "a"
   walk_at "a"
   walk_at "a"
   walk_at "a"
   walk_at "a"
   walk_at "a"
   have st := st0 X
   have lf : ∀ {a b c d e : MV}, LK (setL (setL (setL (setL (setL ρ "kind" a) "name" b) "rest" c) "inner" d) "other" e) "found" (.ref fo) := fun {a b c d e} => ((((l1.set (by walk_at "f")).set (by walk_at "f")).set (by walk_at "f")).set (by walk_at "f")).set (by walk_at "f")
   generalize σ.set fo (.list (X.map iv)) = τ at st ⊢
   walk_at "S"
   refine ⟨by simp, fun tt htt => ?_⟩
   have st := st.new (o := .tuple [.str "var", .str "decl"]) htt
   refine CMP_in_tstrs (xs := ["var", "decl"]) (Sto.set_self ..) ?_
   generalize τ.set tt (.tuple [.str "var", .str "decl"]) = τ at st ⊢
   rw [show ([Str.ofString "var", Str.ofString "decl"].contains (Str.ofString "expr")) = false by decide]
   walk_at "S"
   walk_at "S"
   walk_at "S"
   walk_at "S"
   rw [if_neg nofun, List.append_nil] at k
   exact FORL.sub st.fin (k _ lf)
 ·intro ρ l1
  refine rFL b'.h (subT _ _ _ ep) (fun v hv => by have := (Gs hv).1; lia) (fun U => ?_)
  walk_at "S"
  rw [List.nil_append]
  exact h fo hfo
end
end
section
structure BA where
 nf : Nat
 nt : Nat
 ents : List (Role × Nat × N × Bool)
 fl : List (List N)
 trs : List Nat
noncomputable def entB (B : BA) (ro : Role) (num : Nat) (K : List N) (x : N) : BA := { B with ents := B.ents ++ [(ro, num, x, !K.contains x)] }
noncomputable def tryB (B : BA) (num : Nat) : BA := { B with nt := B.nt + 1, trs := B.trs.set num (B.trs.getD num 0 + 1) }
noncomputable def fnB (B : BA) (own : List N) : BA := { B with nf := B.nf + 1, fl := B.fl ++ [own], trs := B.trs ++ [0] }
noncomputable def bld : T → Role → Nat → List N → BA → BA
 | .nil, _, _, _, B => B
 | .use x r, ro, num, K, B => bld r ro num K (entB B ro num K x)
 | .var x y r, ro, num, K, B => bld r ro num K (entB (entB B ro num K x) ro num K y)
 | .tr x i o r, ro, num, K, B => bld r ro num K (bld o (.ct B.nt) num (K ++ [x]) (bld i ro num K (tryB B num)))
 | .fn d x ps _ b r, ro, num, K, B => bld r ro num K (bld b (.sc B.nf) B.nf (K ++ ((ps ++ ownL b) ++ if d then [] else [x])) (fnB B (ps ++ ownL b)))
theorem bldE : (∀ u1 u2 u3 B, bld .nil u1 u2 u3 B = (B)) ∧ (∀ x r ro num K B, bld (.use x r) ro num K B = (bld r ro num K (entB B ro num K x))) ∧ (∀ x y r ro num K B, bld (.var x y r) ro num K B = (bld r ro num K (entB (entB B ro num K x) ro num K y))) ∧ (∀ x i o r ro num K B, bld (.tr x i o r) ro num K B = (bld r ro num K (bld o (.ct B.nt) num (K ++ [x]) (bld i ro num K (tryB B num))))) ∧ (∀ d x ps u1 b r ro num K B, bld (.fn d x ps u1 b r) ro num K B = (bld r ro num K (bld b (.sc B.nf) B.nf (K ++ ((ps ++ ownL b) ++ if d then [] else [x])) (fnB B (ps ++ ownL b))))) := ⟨fun U U U U => rfl, fun U U U U U U => rfl, fun U U U U U U U => rfl, fun U U U U U U U U => rfl, fun U U U U U U U U U U => rfl⟩
theorem bld_app : ∀ (t s : T) (ro : Role) (num : Nat) (K : List N) (B : BA), bld (appT t s) ro num K B = bld s ro num K (bld t ro num K B)
 | .nil, _, _, _, _, _ => rfl
 | .use _ r, s, _, _, _, _ => bld_app r s _ _ _ _
 | .var _ _ r, s, _, _, _, _ => bld_app r s _ _ _ _
 | .tr _ _ _ r, s, _, _, _, _ => bld_app r s _ _ _ _
 | .fn _ _ _ _ _ r, s, _, _, _, _ => bld_app r s _ _ _ _
theorem bld_n (t : T) : ∀ (ro : Role) (num : Nat) (K : List N) (B : BA), (bld t ro num K B).nf = B.nf + nf t ∧ (bld t ro num K B).nt = B.nt + nt t ∧ (bld t ro num K B).ents.length + (bld t ro num K B).nf + topN t ≤ B.ents.length + B.nf + 2 * sz t := by
 induction t with
 | nil => exact fun U U U U => ⟨rfl, rfl, Nat.le_refl _⟩
 | use x r ih =>
  intro ro num K B
  refine xe03 (ih ro num K (entB B ro num K x)) fun h1 h2 h3 => ?_
  refine ⟨h1, h2, ?_⟩
  simp only [entB, List.length_append, List.length_singleton] at h3
  simp only [bldE, topNE, szE, entB]
  lia
 | var x y r ih =>
  intro ro num K B
  refine xe03 (ih ro num K (entB (entB B ro num K x) ro num K y)) fun h1 h2 h3 => ?_
  refine ⟨h1, h2, ?_⟩
  simp only [entB, List.length_append, List.length_singleton] at h3
  simp only [bldE, topNE, szE, entB]
  lia
 | tr x i o r ihi iho ihr =>
  intro ro num K B
  refine xe03 (ihi ro num K (tryB B num)) fun i1 i2 i3 => ?_
  refine xe03 (iho (.ct B.nt) num (K ++ [x]) (bld i ro num K (tryB B num))) fun o1 o2 o3 => ?_
  refine xe03 (ihr ro num K (bld o (.ct B.nt) num (K ++ [x]) (bld i ro num K (tryB B num)))) fun r1 r2 r3 => ?_
  have e1 : (tryB B num).nf = B.nf := rfl
  have e2 : (tryB B num).nt = B.nt + 1 := rfl
  have e3 : (tryB B num).ents = B.ents := rfl
  rw [e1] at i1 i3; rw [e2] at i2; rw [e3] at i3
  refine ⟨?_, ?_, ?_⟩
  ·show _ = B.nf + (nf i + nf o + nf r); rw [← Nat.add_assoc, ← Nat.add_assoc, ← i1, ← o1]; exact r1
  ·show _ = B.nt + (1 + nt i + nt o + nt r); rw [← Nat.add_assoc, ← Nat.add_assoc, ← Nat.add_assoc, ← i2, ← o2]; exact r2
  ·simp only [bldE, topNE, szE]; clear i1 i2 o1 o2 r1 r2 e1 e2 e3 ihi iho ihr; lia
 | fn d x ps _ b r ihb ihr =>
  intro ro num K B
  refine xe03 (ihb (.sc B.nf) B.nf (K ++ ((ps ++ ownL b) ++ if d then [] else [x])) (fnB B (ps ++ ownL b))) fun i1 i2 i3 => ?_
  refine xe03 (ihr ro num K (bld b (.sc B.nf) B.nf (K ++ ((ps ++ ownL b) ++ if d then [] else [x])) (fnB B (ps ++ ownL b)))) fun r1 r2 r3 => ?_
  have e1 : (fnB B (ps ++ ownL b)).nf = B.nf + 1 := rfl
  have e2 : (fnB B (ps ++ ownL b)).nt = B.nt := rfl
  have e3 : (fnB B (ps ++ ownL b)).ents = B.ents := rfl
  rw [e1] at i1 i3; rw [e2] at i2; rw [e3] at i3
  refine ⟨?_, ?_, ?_⟩
  ·show _ = B.nf + (1 + nf b + nf r); rw [← Nat.add_assoc, ← Nat.add_assoc, ← i1]; exact r1
  ·show _ = B.nt + (nt b + nt r); rw [← Nat.add_assoc, ← i2]; exact r2
  ·simp only [bldE, topNE, szE]; clear i1 i2 r1 r2 e1 e2 e3 ihb ihr; lia
theorem Ast.mono {Λ Λ' : Sto} {w : N → Str} {fa ta fa' ta' : List Addr} (s : Sub Λ Λ') (hf : ∀ (i : Nat) (a : Addr), fa[i]? = some a → fa'[i]? = some a) (ht : ∀ (i : Nat) (a : Addr), ta[i]? = some a → ta'[i]? = some a) {t : T} {k c : Nat} {xs : List MV} (h : Ast Λ w fa ta t k c xs) : Ast Λ' w fa' ta' t k c xs := by
 have nd : ∀ {a p : Addr} {kd : Str} {ps : List MV}, Nd Λ a kd p ps → Nd Λ' a kd p ps := fun h => by
  obtain ⟨⟨fs, e, q⟩, h2⟩ := h
  exact ⟨⟨fs, s _ _ e, q⟩, s _ _ h2⟩
 induction h with
 | nil => exact .nil
 | use h1 h2 _ ih => exact .use (nd h1) (nd h2) ih
 | var h1 h2 h3 h4 _ ih => exact .var (nd h1) (s _ _ h2) (s _ _ h3) (nd h4) ih
 | tr ha h1 h2 h3 _ _ _ i1 i2 i3 => exact .tr (ht _ _ ha) (nd h1) (s _ _ h2) (s _ _ h3) i1 i2 i3
 | decl ha h1 h2 h3 _ _ i1 i2 => exact .decl (hf _ _ ha) (nd h1) (s _ _ h2) (s _ _ h3) i1 i2
 | expr h0 ha h1 h2 h3 _ _ i1 i2 => exact .expr (nd h0) (hf _ _ ha) (nd h1) (s _ _ h2) (s _ _ h3) i1 i2
theorem Ast.app {Λ : Sto} {w : N → Str} {fa ta : List Addr} {t : T} {k c : Nat} {xs : List MV} (h : Ast Λ w fa ta t k c xs) {s : T} {ys : List MV} (h' : Ast Λ w fa ta s (k + nf t) (c + nt t) ys) : Ast Λ w fa ta (appT t s) k c (xs ++ ys) := by
 induction h with
 | nil => exact h'
 | use h1 h2 _ ih => exact .use h1 h2 (ih h')
 | var h1 h2 h3 h4 _ ih => exact .var h1 h2 h3 h4 (ih h')
 | tr ha h1 h2 h3 hi ho _ _ _ i3 =>
  refine .tr ha h1 h2 h3 hi ho (i3 ?_)
  simp only [nfE, ntE] at h'
  rwa [show ∀ a b c d : Nat, a + (b + c + d) = a + b + c + d by lia, show ∀ a b c d : Nat, a + (1 + b + c + d) = a + 1 + b + c + d by lia] at h'
 | decl ha h1 h2 h3 hb _ _ i2 =>
  refine .decl ha h1 h2 h3 hb (i2 ?_)
  simp only [nfE, ntE] at h'
  rwa [show ∀ a b d : Nat, a + (1 + b + d) = a + 1 + b + d by lia, ← Nat.add_assoc] at h'
 | expr h0 ha h1 h2 h3 hb _ _ i2 =>
  refine .expr h0 ha h1 h2 h3 hb (i2 ?_)
  simp only [nfE, ntE] at h'
  rwa [show ∀ a b d : Nat, a + (1 + b + d) = a + 1 + b + d by lia, ← Nat.add_assoc] at h'
noncomputable def nodeOf (fa ta : List Addr) : Role → Option Addr
 | .sc k => fa[k]?
 | .ct c => ta[c]?
 | _ => none
noncomputable def EntV (fa ta : List Addr) (σ : Sto) (e : Role × Nat × N × Bool) (v : MV) : Prop := ∃ t na, v = .ref t ∧ σ t = some (.tuple [.ref na, .int (e.2.1 : Int), iv e.2.2.1, .bool e.2.2.2]) ∧ nodeOf fa ta e.1 = some na
noncomputable def FnV (fa : List Addr) (σ : Sto) (q : Nat × List N) (v : MV) : Prop := ∃ t na p, v = .ref t ∧ σ t = some (.tuple [.ref na, .ref p]) ∧ σ p = some (.list (q.2.map iv)) ∧ fa[q.1]? = some na
noncomputable def enumF (fl : List (List N)) : List (Nat × List N) := fl.zipIdx.map fun q => (q.2 + 1, q.1)
theorem enumF_snoc (fl : List (List N)) (o : List N) : enumF (fl ++ [o]) = enumF fl ++ [(fl.length + 1, o)] := by
 unfold enumF
 rw [List.zipIdx_append, List.map_append]
 simp
theorem pre_get {l m : List Addr} {i : Nat} {a : Addr} (h : l[i]? = some a) : (l ++ m)[i]? = some a := by
 rw [List.getElem?_append_left (Gs h).1]; exact h
theorem nodeOf_pre {fa ta f t : List Addr} {r : Role} {a : Addr} (h : nodeOf fa ta r = some a) : nodeOf (fa ++ f) (ta ++ t) r = some a := by
 cases r <;> first | exact pre_get h | exact nn h
structure M3 where
 m0 : Addr
 m1 : Addr
 m2 : Addr
noncomputable def M3.off (M : M3) (a : Addr) : Prop := a ≠ M.m0 ∧ a ≠ M.m1 ∧ a ≠ M.m2
structure NG where
 Θ : Sto
 fa : List Addr
 ta : List Addr
 B : BA
noncomputable def NG.ent (G : NG) (Θ : Sto) (ro : Role) (num : Nat) (K : List N) (x : N) : NG := ⟨Θ, G.fa, G.ta, entB G.B ro num K x⟩
noncomputable def NG.trn (G : NG) (na : Addr) (num : Nat) : NG := ⟨G.Θ, G.fa, G.ta ++ [na], tryB G.B num⟩
noncomputable def NG.fun (G : NG) (Θ : Sto) (na : Addr) (own : List N) : NG := ⟨Θ, G.fa ++ [na], G.ta, fnB G.B own⟩
structure BS (M : M3) (G : NG) (τ : Sto) : Prop where
 d01 : M.m0 ≠ M.m1
 d02 : M.m0 ≠ M.m2
 d12 : M.m1 ≠ M.m2
 s : Sub G.Θ τ
 o : ∀ a, G.Θ a ≠ none → M.off a
 e0 : ∃ xs, τ M.m0 = some (.list xs) ∧ F2 (EntV G.fa G.ta G.Θ) G.B.ents xs
 e1 : ∃ xs, τ M.m1 = some (.list xs) ∧ F2 (FnV G.fa G.Θ) (enumF G.B.fl) xs
 e2 : τ M.m2 = some (.list (G.B.trs.map fun (n : Nat) => MV.int n))
 lf : G.fa.length = G.B.nf
 lt : G.ta.length = G.B.nt
 l1 : G.B.fl.length + 1 = G.B.nf
 l2 : G.B.trs.length = G.B.nf
 nd : (G.fa ++ G.ta).Nodup
 dom : ∀ a ∈ G.fa ++ G.ta, τ a ≠ none
structure NE where
 M : M3
 fo : Addr
 σ : Sto
 Θ : Sto
structure IN (E : NE) (G : NG) (X : List MV) (τ : Sto) : Prop where
 bs : BS E.M G τ
 ffo : τ E.fo = some (.list X)
 mfo : E.M.off E.fo
 θfo : G.Θ E.fo = none
 ext : ∀ a o, E.M.off a → a ≠ E.fo → E.σ a = some o → τ a = some o
 θs : Sub E.Θ G.Θ
 θn : ∀ a, G.Θ a ≠ none → E.Θ a = none → E.σ a = none
structure BW (E : NE) (G : NG) (X : List MV) (τb τ : Sto) : Prop where
 i : IN E G X τ
 c : ∀ a o, E.M.off a → a ≠ E.fo → τb a = some o → τ a = some o
structure New (E : NE) (G : NG) (d : Addr) : Prop where
 off : E.M.off d
 nf : d ≠ E.fo
 n1 : E.σ d = none
 θ : G.Θ d = none
 nm : d ∉ G.fa ++ G.ta
section
variable {M : M3} {E : NE} {G : NG} {X : List MV} {τ τb : Sto}
theorem nat_off {d : Addr} {o : Option MO} {τ : Sto} {m : Addr} {xs : List MV} (e : τ m = some (.list xs)) (hd : τ d = o) (h : ∀ xs, o ≠ some (.list xs)) : d ≠ m := fun q => h xs (by rw [← hd, q]; exact e)
theorem BS.offN {d : Addr} {o : Option MO} (h : BS M G τ) (hd : τ d = o) (ho : ∀ xs, o ≠ some (.list xs)) : M.off d := by
 refine xe12 h.e0 fun U e0 U => ?_
 refine xe12 h.e1 fun U e1 U => ?_
 exact ⟨nat_off e0 hd ho, nat_off e1 hd ho, nat_off h.e2 hd ho⟩
theorem BS.off {d : Addr} (h : BS M G τ) (hd : τ d = none) : M.off d := h.offN hd fun U e => none_ne e
theorem BS.offT {a : Addr} {xs : List MV} (h : BS M G τ) (e : τ a = some (.tuple xs)) : M.off a := h.offN e fun U q => by cases q
theorem none_of {σ τ : Sto} {d : Addr} (hd : τ d = none) (h : ∀ o, σ d = some o → τ d = some o) : σ d = none := by
 cases q : σ d with
 | none => rfl
 | some x => exact sn ((h x q).symm.trans hd)
theorem IN.new {d : Addr} (h : IN E G X τ) (hd : τ d = none) : New E G d := by
 have o := h.bs.off hd
 have nf : d ≠ E.fo := fun q => by rw [q, h.ffo] at hd; exact sn hd
 exact ⟨o, nf, none_of hd fun x e => h.ext _ _ o nf e, none_of hd fun x e => h.bs.s _ _ e, fun hm => h.bs.dom d hm hd⟩
theorem BS.sub {τ' : Sto} (h : BS M G τ) (s : Sub τ τ') : BS M G τ' := by
 refine xe12 h.e0 fun xs x1 x2 => ?_
 refine xe12 h.e1 fun ys y1 y2 => ?_
 exact ⟨h.d01, h.d02, h.d12, h.s.trans s, h.o, ⟨xs, s _ _ x1, x2⟩, ⟨ys, s _ _ y1, y2⟩, s _ _ h.e2, h.lf, h.lt, h.l1, h.l2, h.nd, fun a ha e => h.dom a ha (none_of e fun x q => s _ _ q)⟩
theorem IN.sub {τ' : Sto} (h : IN E G X τ) (s : Sub τ τ') : IN E G X τ' := ⟨h.bs.sub s, s _ _ h.ffo, h.mfo, h.θfo, fun a o h1 h2 e => s _ _ (h.ext a o h1 h2 e), h.θs, h.θn⟩
theorem BW.ck (h : BW E G X τb τ) : BW E G X τ τ := ⟨h.i, fun U U U U e => e⟩
theorem BW.al (h : BW E G X τb τ) {o : MO} {κ : MV → Sto → Prop} (k : ∀ d τ', BW E G X τb τ' → New E G d → τ' d = some o → Sub τ τ' → κ (.ref d) τ') : ∀ d, τ d = none → κ (.ref d) (τ.set d o) :=
 fun d hd => k d _ ⟨h.i.sub (Sub.new hd), fun a o h1 h2 e => keep_new hd (h.c a o h1 h2 e)⟩ (h.i.new hd) (Sto.set_self ..) (Sub.new hd)
theorem BW.at1 {G' : NG} {X' : List MV} {a : Addr} {o : MO} (h : BW E G X τb τ) (i : IN E G' X' (τ.set a o)) (ha : ∀ b, E.M.off b → b ≠ E.fo → b ≠ a) : BW E G' X' τb (τ.set a o) := ⟨i, fun b o h1 h2 e => keep_ne (ha b h1 h2) (h.c b o h1 h2 e)⟩
theorem BW.found {v : MV} (h : BW E G X τb τ) : BW E G (X ++ [v]) τb (τ.set E.fo (.list (X ++ [v]))) := by
 have i := h.i
 refine xe12 i.bs.e0 fun xs x1 x2 => ?_
 refine xe12 i.bs.e1 fun ys y1 y2 => ?_
 refine xe03 i.mfo fun m1 m2 m3 => ?_
 exact h.at1 ⟨⟨i.bs.d01, i.bs.d02, i.bs.d12, fun a o e => keep_ne (fun q => by rw [q, i.θfo] at e; exact nn e) (i.bs.s a o e), i.bs.o, ⟨xs, keep_ne (Ne.symm m1) x1, x2⟩, ⟨ys, keep_ne (Ne.symm m2) y1, y2⟩, keep_ne (Ne.symm m3) i.bs.e2, i.bs.lf, i.bs.lt, i.bs.l1, i.bs.l2, i.bs.nd, fun a ha e => i.bs.dom a ha (set_dom e).1⟩,
  Sto.set_self .., i.mfo, i.θfo, fun a o h1 h2 e => keep_ne h2 (i.ext a o h1 h2 e), i.θs, i.θn⟩ fun U U h2 => h2
theorem sub_two {Θ τ : Sto} {t p : Addr} {o o' : MO} (s : Sub Θ τ) (et : τ t = some o) (ep : τ p = some o') (n : t ≠ p) : Sub Θ ((Θ.set t o).set p o') ∧ Sub ((Θ.set t o).set p o') τ := by
 constructor
 ·intro a x e
  by_cases q : a = p
  ·subst q; rw [Sto.set_self, ← ep, s _ _ e]
  ·by_cases q' : a = t
   ·subst q'; rw [Sto.set_ne _ _ q, Sto.set_self, ← et, s _ _ e]
   ·rw [Sto.set_ne _ _ q, Sto.set_ne _ _ q']; exact e
 ·intro a x e
  by_cases q : a = p
  ·subst q; rw [Sto.set_self] at e; rw [ep, e]
  ·rw [Sto.set_ne _ _ q] at e
   by_cases q' : a = t
   ·subst q'; rw [Sto.set_self] at e; rw [et, e]
   ·rw [Sto.set_ne _ _ q'] at e; exact s _ _ e
theorem sub_one {Θ τ : Sto} {t : Addr} {o : MO} (s : Sub Θ τ) (et : τ t = some o) : Sub Θ (Θ.set t o) ∧ Sub (Θ.set t o) τ := by
 constructor
 ·intro a x e
  by_cases q' : a = t
  ·subst q'; rw [Sto.set_self, ← et, s _ _ e]
  ·rw [Sto.set_ne _ _ q']; exact e
 ·intro a x e
  by_cases q' : a = t
  ·subst q'; rw [Sto.set_self] at e; rw [et, e]
  ·rw [Sto.set_ne _ _ q'] at e; exact s _ _ e
theorem BW.ent {t na : Addr} {ro : Role} {num : Nat} {K : List N} {x : N} (h : BW E G X τb τ) (nt : New E G t) (et : τ t = some (.tuple [.ref na, .int (num : Int), iv x, .bool (!K.contains x)])) (hr : nodeOf G.fa G.ta ro = some na) :
  ∃ xs Θ', τ E.M.m0 = some (.list xs) ∧ xs.length = G.B.ents.length ∧ BW E (G.ent Θ' ro num K x) X τb (τ.set E.M.m0 (.list (xs ++ [.ref t]))) := by
 have i := h.i
 refine xe12 i.bs.e0 fun xs x1 x2 => ?_
 refine xe12 i.bs.e1 fun ys y1 y2 => ?_
 refine xe02 (sub_one i.bs.s et) fun ms st => ?_
 have so : ∀ a, (G.Θ.set t (.tuple [.ref na, .int (num : Int), iv x, .bool (!K.contains x)])) a ≠ none → a = t ∨ G.Θ a ≠ none := fun a e => by
  by_cases q : a = t
  ·exact .inl q
  ·rw [Sto.set_ne _ _ q] at e; exact .inr e
 have so' := fun a e => (so a e).elim (fun q => q ▸ nt.off) (i.bs.o a)
 refine ⟨xs, G.Θ.set t (.tuple [.ref na, .int (num : Int), iv x, .bool (!K.contains x)]), x1, x2.1.symm, h.at1 ⟨⟨i.bs.d01, i.bs.d02, i.bs.d12, fun a o e => keep_ne (so' a (ns e)).1 (st a o e), so', ⟨xs ++ [.ref t], Sto.set_self .., ?_⟩, ⟨ys, keep_ne (Ne.symm i.bs.d01) y1, y2.mono fun e v h => ?_⟩, keep_ne (Ne.symm i.bs.d02) i.bs.e2, i.bs.lf, i.bs.lt, i.bs.l1, i.bs.l2, i.bs.nd, fun a ha e => i.bs.dom a ha (set_dom e).1⟩, keep_ne i.mfo.1 i.ffo, i.mfo, (Sto.set_ne _ _ (Ne.symm nt.nf)).trans i.θfo, fun a o h1 h2 e => keep_ne h1.1 (i.ext a o h1 h2 e), i.θs.trans ms, fun a h1 h2 => (so a h1).elim (fun q => q ▸ nt.n1) fun e => i.θn a e h2⟩ fun U h1 U => h1.1⟩
 ·refine (x2.mono fun e v h => ?_).snoc ⟨t, na, rfl, Sto.set_self .., hr⟩
  refine xe23 h fun t' na' e' q1 q2 => ?_
  exact ⟨t', na', e', ms _ _ q1, q2⟩
 ·refine xe34 h fun t' na' p e' q1 q2 q3 => ?_
  exact ⟨t', na', p, e', ms _ _ q1, ms _ _ q2, q3⟩
end
end
section
section
variable {E : NE} {G : NG} {X : List MV} {τ τb : Sto}
theorem enumF_len (l : List (List N)) : (enumF l).length = l.length := by unfold enumF; rw [List.length_map, List.length_zipIdx]
theorem nodup_in {l m : List Addr} {a : Addr} (h : (l ++ m).Nodup) (ha : a ∉ l ++ m) : ((l ++ [a]) ++ m).Nodup ∧ (l ++ (m ++ [a])).Nodup := by
 have h1 : (a :: (l ++ m)).Nodup := List.nodup_cons.mpr ⟨ha, h⟩
 refine ⟨(List.Perm.nodup_iff ?_).mp h1, (List.Perm.nodup_iff ?_).mp h1⟩
 ·rw [List.append_assoc]; exact List.perm_middle.symm
 ·rw [← List.append_assoc]; exact (List.perm_append_singleton a (l ++ m)).symm
theorem mem_in {l m : List Addr} {a b : Addr} (h : b ∈ (l ++ [a]) ++ m ∨ b ∈ l ++ (m ++ [a])) : b = a ∨ b ∈ l ++ m := by
 rcases h with h | h
 ·rcases List.mem_append.mp h with h | h
  ·rcases List.mem_append.mp h with h | h
   ·exact .inr (List.mem_append_left _ h)
   ·exact .inl (List.mem_singleton.mp h)
  ·exact .inr (List.mem_append_right _ h)
 ·rcases List.mem_append.mp h with h | h
  ·exact .inr (List.mem_append_left _ h)
  ·rcases List.mem_append.mp h with h | h
   ·exact .inr (List.mem_append_right _ h)
   ·exact .inl (List.mem_singleton.mp h)
theorem nodeOf_t {fa ta t : List Addr} {r : Role} {a : Addr} (h : nodeOf fa ta r = some a) : nodeOf fa (ta ++ t) r = some a := by
 cases r <;> first | exact h | exact pre_get h
theorem nodeOf_f {fa ta t : List Addr} {r : Role} {a : Addr} (h : nodeOf fa ta r = some a) : nodeOf (fa ++ t) ta r = some a := by
 cases r <;> first | exact h | exact pre_get h
theorem BW.fnode {t na p : Addr} {own : List N} {o : MO} (h : BW E G X τb τ) (nt : New E G t) (et : τ t = some (.tuple [.ref na, .ref p])) (np : New E G p) (ep : τ p = some (.list (own.map iv))) (nn : New E G na) (en : τ na = some o) :
  ∃ ys Θ', τ E.M.m1 = some (.list ys) ∧ ys.length = G.B.fl.length ∧ (τ.set E.M.m1 (.list (ys ++ [.ref t]))) E.M.m2 = some (.list (G.B.trs.map fun (n : Nat) => MV.int n)) ∧
   BW E (G.fun Θ' na own) X τb ((τ.set E.M.m1 (.list (ys ++ [.ref t]))).set E.M.m2 (.list ((G.B.trs.map fun (n : Nat) => MV.int n) ++ [.int 0]))) ∧ (∀ a, Θ' a ≠ none → a = t ∨ a = p ∨ G.Θ a ≠ none) := by
 have i := h.i
 refine xe12 i.bs.e0 fun xs x1 x2 => ?_
 refine xe12 i.bs.e1 fun ys y1 y2 => ?_
 have pt : t ≠ p := fun q => by rw [← q, et] at ep; cases ep
 refine xe02 (sub_two i.bs.s et ep pt) fun ms st => ?_
 have hp : ((G.Θ.set t (.tuple [.ref na, .ref p])).set p (.list (own.map iv))) p = some (.list (own.map iv)) := Sto.set_self ..
 have ht : ((G.Θ.set t (.tuple [.ref na, .ref p])).set p (.list (own.map iv))) t = some (.tuple [.ref na, .ref p]) := keep_ne pt (Sto.set_self ..)
 have sd : ∀ a, ((G.Θ.set t (.tuple [.ref na, .ref p])).set p (.list (own.map iv))) a ≠ none → a = t ∨ a = p ∨ G.Θ a ≠ none := fun a e => by
  by_cases q : a = p
  ·exact .inr (.inl q)
  ·by_cases q' : a = t
   ·exact .inl q'
   ·rw [Sto.set_ne _ _ q, Sto.set_ne _ _ q'] at e; exact .inr (.inr e)
 generalize (G.Θ.set t (.tuple [.ref na, .ref p])).set p (.list (own.map iv)) = Θ1 at ms st hp ht sd
 have so := fun a e => (sd a e).elim (fun q => q ▸ nt.off) fun e => e.elim (fun q => q ▸ np.off) (i.bs.o a)
 have kp : ∀ a o, E.M.off a → τ a = some o → ((τ.set E.M.m1 (.list (ys ++ [.ref t]))).set E.M.m2 (.list ((G.B.trs.map fun (n : Nat) => MV.int n) ++ [.int 0]))) a = some o := fun a o h e => keep_ne h.2.2 (keep_ne h.2.1 e)
 refine ⟨ys, Θ1, y1, by rw [← y2.1, enumF_len], keep_ne (Ne.symm i.bs.d12) i.bs.e2, ⟨⟨⟨i.bs.d01, i.bs.d02, i.bs.d12, fun a o e => kp a o (so a (ns e)) (st a o e), so, ⟨xs, keep_ne i.bs.d02 (keep_ne i.bs.d01 x1), x2.mono fun e v h => ?_⟩, ⟨ys ++ [.ref t], keep_ne i.bs.d12 (Sto.set_self ..), ?_⟩, ?_, (List.length_append ..).trans (congrArg Nat.succ i.bs.lf), i.bs.lt, (congrArg Nat.succ (List.length_append ..)).trans (congrArg Nat.succ i.bs.l1), (List.length_append ..).trans (congrArg Nat.succ i.bs.l2), (nodup_in i.bs.nd nn.nm).1, fun a ha e => ?_⟩,
  kp _ _ i.mfo i.ffo, i.mfo, ?_, fun a o h1 h2 e => kp a o h1 (i.ext a o h1 h2 e), i.θs.trans ms, fun a h1 h2 => ?_⟩, fun a o h1 h2 e => kp a o h1 (h.c a o h1 h2 e)⟩, sd⟩
 ·refine xe23 h fun t' na' e' q1 q2 => ?_
  exact ⟨t', na', e', ms _ _ q1, nodeOf_f q2⟩
 ·refine (show F2 _ (enumF (G.B.fl ++ [own])) _ from enumF_snoc G.B.fl own ▸ (y2.mono fun e v h => ?_).snoc ⟨t, na, p, rfl, ht, hp, ?_⟩)
  ·refine xe34 h fun t' na' p' e' q1 q2 q3 => ?_
   exact ⟨t', na', p', e', ms _ _ q1, ms _ _ q2, pre_get q3⟩
  ·show (G.fa ++ [na])[G.B.fl.length + 1]? = some na
   rw [i.bs.l1, ← i.bs.lf, List.getElem?_append_right (Nat.le_refl _), Nat.sub_self]; rfl
 ·rw [Sto.set_self]; exact congrArg (fun l => some (MO.list l)) (List.map_append (l₁ := G.B.trs) (l₂ := [0])).symm
 ·rcases mem_in (.inl ha) with rfl | ha
  ·exact ns en (set_dom (set_dom e).1).1
  ·exact i.bs.dom a ha (set_dom (set_dom e).1).1
 ·cases q : Θ1 E.fo with
  | none => exact q
  | some x => exact ((sd _ (ns q)).elim (fun e => absurd e.symm nt.nf) fun e => e.elim (fun e => absurd e.symm np.nf) fun e => absurd i.θfo e)
 ·exact (sd a h1).elim (fun q => q ▸ nt.n1) fun e => e.elim (fun q => q ▸ np.n1) fun e => i.θn a e h2
theorem BW.tnode {na : Addr} {num : Nat} {o : MO} (h : BW E G X τb τ) (nn : New E G na) (en : τ na = some o) (hnum : num < G.B.nf) :
  τ E.M.m2 = some (.list (G.B.trs.map fun (n : Nat) => MV.int n)) ∧ (G.B.trs.map fun (n : Nat) => MV.int n)[num]? = some (.int (G.B.trs.getD num 0 : Nat)) ∧
   BW E (G.trn na num) X τb (τ.set E.M.m2 (.list ((G.B.trs.map fun (n : Nat) => MV.int n).set num (.int ((G.B.trs.getD num 0 : Nat) + 1))))) := by
 have i := h.i
 refine xe12 i.bs.e0 fun xs x1 x2 => ?_
 refine xe12 i.bs.e1 fun ys y1 y2 => ?_
 have hl : num < G.B.trs.length := by rw [i.bs.l2]; exact hnum
 refine ⟨i.bs.e2, ?_, h.at1 ⟨⟨i.bs.d01, i.bs.d02, i.bs.d12, fun a o e => keep_ne (i.bs.o a (ns e)).2.2 (i.bs.s a o e), i.bs.o, ⟨xs, keep_ne i.bs.d02 x1, x2.mono fun e v h => ?_⟩, ⟨ys, keep_ne i.bs.d12 y1, y2⟩, ?_, i.bs.lf, (List.length_append ..).trans (congrArg Nat.succ i.bs.lt), i.bs.l1, (List.length_set ..).trans i.bs.l2, (nodup_in i.bs.nd nn.nm).2, fun a ha e => ?_⟩, keep_ne i.mfo.2.2 i.ffo, i.mfo, i.θfo, fun a o h1 h2 e => keep_ne h1.2.2 (i.ext a o h1 h2 e), i.θs, i.θn⟩ fun U h1 U => h1.2.2⟩
 ·rw [List.getElem?_map, List.getD_eq_getElem?_getD, List.getElem?_eq_getElem hl]; rfl
 ·refine xe23 h fun t' na' e' q1 q2 => ?_
  exact ⟨t', na', e', q1, nodeOf_t q2⟩
 ·rw [Sto.set_self]; exact congrArg (fun l => some (MO.list l)) (List.map_set ..).symm
 ·rcases mem_in (.inr ha) with rfl | ha
  ·exact ns en (set_dom e).1
  ·exact i.bs.dom a ha (set_dom e).1
structure NR (M : M3) (σ σ' : Sto) (G G' : NG) : Prop where
 k : ∀ a o, M.off a → σ a = some o → σ' a = some o
 bs : BS M G' σ'
 s : Sub G.Θ G'.Θ
 n : ∀ a, G'.Θ a ≠ none → G.Θ a = none → σ a = none
 f : ∃ f, G'.fa = G.fa ++ f
 t : ∃ t, G'.ta = G.ta ++ t
theorem NR.θ {M : M3} {σ σ' : Sto} {G G' : NG} (r : NR M σ σ' G G') {p : Addr} {o : MO} (e : σ p = some o) (h : G.Θ p = none) : G'.Θ p = none := by
 cases q : G'.Θ p with
 | none => rfl
 | some x => exact absurd (r.n p (ns q) h) (ns e)
theorem BW.call {τ' : Sto} {G' : NG} (h : BW E G X τb τ) (r : NR E.M τ τ' G G') : BW E G' X τb τ' := by
 have i := h.i
 refine ⟨⟨r.bs, r.k _ _ i.mfo i.ffo, i.mfo, r.θ i.ffo i.θfo, fun a o h1 h2 e => r.k a o h1 (i.ext a o h1 h2 e), i.θs.trans r.s, fun a h1 h2 => ?_⟩, fun a o h1 h2 e => r.k a o h1 (h.c a o h1 h2 e)⟩
 cases q : G.Θ a with
 | some x => exact i.θn a (ns q) h2
 | none => exact (i.new (r.n a h1 q)).n1
theorem BW.turn {G0 : NG} {p : Addr} {o : MO} (h : BW E G X τb τ) (np : New E G0 p) (hθ : G.Θ p = none) : BW E G X (τ.set p o) (τ.set p o) := by
 have i := h.i
 refine xe12 i.bs.e0 fun xs x1 x2 => ?_
 refine xe12 i.bs.e1 fun ys y1 y2 => ?_
 exact ⟨⟨⟨i.bs.d01, i.bs.d02, i.bs.d12, fun a o e => keep_ne (fun q => by rw [q, hθ] at e; exact nn e) (i.bs.s a o e), i.bs.o, ⟨xs, keep_ne (Ne.symm np.off.1) x1, x2⟩, ⟨ys, keep_ne (Ne.symm np.off.2.1) y1, y2⟩, keep_ne (Ne.symm np.off.2.2) i.bs.e2, i.bs.lf, i.bs.lt, i.bs.l1, i.bs.l2, i.bs.nd, fun a ha e => i.bs.dom a ha (set_dom e).1⟩, keep_ne (Ne.symm np.nf) i.ffo, i.mfo, i.θfo, fun a o h1 h2 e => keep_ne (fun q => by rw [q, np.n1] at e; exact nn e) (i.ext a o h1 h2 e), i.θs, i.θn⟩, fun U U U U e => e⟩
end
end
section
structure NS where
 τ : Sto
 G : NG
 X : List MV
noncomputable abbrev INs (E : NE) (S : NS) : Prop := IN E S.G S.X S.τ
structure NLe (E : NE) (S S' : NS) : Prop where
 k : ∀ a o, E.M.off a → a ≠ E.fo → S.τ a = some o → S'.τ a = some o
 f : ∃ f, S'.G.fa = S.G.fa ++ f
 t : ∃ t, S'.G.ta = S.G.ta ++ t
theorem NLe.trans {E : NE} {S S' S'' : NS} (h : NLe E S S') (h' : NLe E S' S'') : NLe E S S'' := by
 refine xe11 h.f fun f1 e1 => ?_
 refine xe11 h'.f fun f2 e2 => ?_
 refine xe11 h.t fun t1 e3 => ?_
 refine xe11 h'.t fun t2 e4 => ?_
 exact ⟨fun a o h1 h2 e => h'.k a o h1 h2 (h.k a o h1 h2 e), ⟨f1 ++ f2, by rw [e2, e1, List.append_assoc]⟩, ⟨t1 ++ t2, by rw [e4, e3, List.append_assoc]⟩⟩
noncomputable def okB : T → Prop
 | .nil => True
 | .use _ r => okB r
 | .var _ _ r => okB r
 | .tr _ i o r => okB i ∧ okB o ∧ okB r
 | .fn _ _ ps _ b r => ps.length ≤ 10 ∧ okB b ∧ okB r
theorem okB_of : ∀ {b : Bool} {t : T}, okT b t → okB t ∧ wfT t
 | _, .nil, _ => ⟨trivial, trivial⟩
 | _, .use _ r, h => okB_of (t := r) h
 | _, .var _ _ r, h => okB_of (t := r) h.2
 | _, .tr _ i o r, h => by
  refine xe02 (okB_of (t := i) h.2.1) fun i1 i2 => ?_
  refine xe02 (okB_of (t := o) h.2.2.1) fun o1 o2 => ?_
  refine xe02 (okB_of (t := r) h.2.2.2) fun r1 r2 => ?_
  exact ⟨⟨i1, o1, r1⟩, i2, o2, r2⟩
 | _, .fn _ _ ps _ b r, h => by
  refine xe02 (okB_of (t := b) h.2.2.2.2.1) fun i1 i2 => ?_
  refine xe02 (okB_of (t := r) h.2.2.2.2.2) fun r1 r2 => ?_
  exact ⟨⟨by have := h.2.2.1; lia, i1, r1⟩, by have := h.2.2.1; lia, i2, r2⟩
inductive K5 (Λ : Sto) : T → Str → MV → MV → MV → MV → Prop where
 | uv (d : Bool) (x y : N) {v4 v5 : MV} : K5 Λ (if d = true then .use x .nil else .var x y .nil) (if d = true then Str.ofString "use" else Str.ofString "var") (iv x) (if d = true then .none else iv y) v4 v5
 | tr {x : N} {ti to : T} {xi xo : List MV} {e1 e2 : Addr} (h1 : Λ e1 = some (.list xi)) (h2 : Λ e2 = some (.list xo)) (hi : TR Λ ti xi) (ho : TR Λ to xo) : K5 Λ (.tr x ti to .nil) "try" (iv x) .none (.ref e1) (.ref e2)
 | fn {d : Bool} {x : N} {ps : List N} {st : Bool} {b : T} {xb : List MV} {q p e1 : Addr} {v5 : MV} (hq : Λ q = some (.tuple [.ref p, .bool st])) (hp : Λ p = some (.list (ps.map iv))) (h1 : Λ e1 = some (.list xb)) (hb : TR Λ b xb) : K5 Λ (.fn d x ps st b .nil) (if d = true then Str.ofString "decl" else Str.ofString "expr") (iv x) (.ref q) (.ref e1) v5
noncomputable def NS.lim (S : NS) (t : T) : Prop := S.X.length + S.G.B.ents.length + S.G.B.nf + 2 * sz t ≤ 800
section
variable {E : NE} {Λ : Sto} {w : N → Str} {ro : Role} {na : Addr} {num D : Nat} {K : List N} {P : Loc → Prop} {R : Nat → Loc → NS → Prop} {xs : List MV}
structure NAf (E : NE) (w : N → Str) (ro : Role) (num : Nat) (K : List N) (t : T) (S S' : NS) (zs : List MV) : Prop where
 i : INs E S'
 le : NLe E S S'
 ast : Ast (fr E.σ S'.τ) w S'.G.fa S'.G.ta t S.G.B.nf S.G.B.nt zs
 x : S'.X = S.X ++ zs
 b : S'.G.B = bld t ro num K S.G.B
structure NBe (E : NE) (ro : Role) (na : Addr) (num D : Nat) (t : T) (S : NS) : Prop where
 i : INs E S
 d : dep t ≤ D
 ob : okB t
 lim : S.lim t
 hn : num < S.G.B.nf
 ro : nodeOf S.G.fa S.G.ta ro = some na
noncomputable def NStep (E : NE) (Λ : Sto) (w : N → Str) (ro : Role) (na : Addr) (num D : Nat) (K : List N) (P : Loc → Prop) (R : Nat → Loc → NS → Prop) (xs : List MV) : Prop :=
 ∀ (i : Nat) (ρ : Loc) (S : NS) (t1 : T) (a : Addr) (s : Str) (v2 v3 v4 v5 : MV), P ρ → xs[i]? = some (.ref a) → Λ a = some (.tuple [.str s, v2, v3, v4, v5]) → K5 Λ t1 s v2 v3 v4 v5 → NBe E ro na num D t1 S →
  (∀ ρ' S' v, P ρ' → NAf E w ro num K t1 S S' [v] → R (i + 1) ρ' S') → R i ρ S
noncomputable def NGoal (E : NE) (w : N → Str) (ro : Role) (na : Addr) (num D : Nat) (K : List N) (P : Loc → Prop) (R : Nat → Loc → NS → Prop) (xs : List MV) (t : T) (ys : List MV) : Prop :=
 ∀ (i : Nat) (ρ : Loc) (S : NS), xs.drop i = ys → i ≤ xs.length → P ρ → NBe E ro na num D t S →
  (∀ ρ' S' zs, P ρ' → NAf E w ro num K t S S' zs → R xs.length ρ' S') → R i ρ S
theorem lim_step {x e f s1 s2 e' f' : Nat} (h : x + e + f + 2 * (s1 + s2) ≤ 800) (h' : e' + f' + 1 ≤ e + f + 2 * s1) : x + e + f + 2 * s1 ≤ 800 ∧ x + 1 + e' + f' + 2 * s2 ≤ 800 := by lia
theorem ngoal_cons (hσ : ∀ a, E.σ a = none → E.M.off a ∧ a ≠ E.fo) (st : NStep E Λ w ro na num D K P R xs) {t1 r : T} {a : Addr} {s : Str} {v2 v3 v4 v5 : MV} {ys : List MV} (ht : Λ a = some (.tuple [.str s, v2, v3, v4, v5])) (h5 : K5 Λ t1 s v2 v3 v4 v5) (hd : dep (appT t1 r) ≤ D → dep t1 ≤ D ∧ dep r ≤ D) (hb : okB (appT t1 r) → okB t1 ∧ okB r) (hs : topN t1 = 1)
  (ih : NGoal E w ro na num D K P R xs r ys) : NGoal E w ro na num D K P R xs (appT t1 r) (.ref a :: ys) := by
 intro i ρ S he hi p h k
 refine xe03 (drop_step he) fun d1 d2 d3 => ?_
 refine xe02 (hd h.d) fun p1 p2 => ?_
 refine xe02 (hb h.ob) fun b1 b2 => ?_
 refine xe03 (bld_n t1 ro num K S.G.B) fun n1 n2 n3 => ?_
 rw [hs] at n3
 have hl : S.X.length + S.G.B.ents.length + S.G.B.nf + 2 * sz (appT t1 r) ≤ 800 := h.lim
 rw [app_sz] at hl
 refine xe02 (lim_step hl n3) fun l1 l2 => ?_
 refine st i ρ S t1 a s v2 v3 v4 v5 p d1 ht h5 ⟨h.i, p1, b1, l1, h.hn, h.ro⟩ fun ρ' S' v p' a => ?_
 rw [← a.b] at n1 n2 l2
 refine ih (i + 1) ρ' S' d2 d3 p' ⟨a.i, p2, b2, ?_, Nat.lt_of_lt_of_le h.hn (by rw [n1]; exact Nat.le_add_right ..), ?_⟩ fun ρ2 S2 zs p3 a2 => k ρ2 S2 (v :: zs) p3 ⟨a2.i, a.le.trans a2.le, ?_, ?_, ?_⟩
 ·show S'.X.length + _ + _ + _ ≤ 800
  rw [a.x, List.length_append]; exact l2
 ·refine xe11 a.le.f fun f e => ?_
  refine xe11 a.le.t fun t e' => ?_
  rw [e, e']; exact nodeOf_pre h.ro
 ·refine xe11 a2.le.f fun f2 ef => ?_
  refine xe11 a2.le.t fun t2 et => ?_
  have ast2 := a2.ast
  rw [n1, n2] at ast2
  refine Ast.app (xs := [v]) (a.ast.mono (fr_mono (fun U e => e) fun b o q1 q2 => a2.le.k b o (hσ b q1).1 (hσ b q1).2 q2) (fun i b h => ?_) fun i b h => ?_) ast2
  ·rw [ef]; exact pre_get h
  ·rw [et]; exact pre_get h
 ·rw [a2.x, a.x, List.append_assoc]; rfl
 ·rw [a2.b, a.b, bld_app]
theorem nodes_loop (hσ : ∀ a, E.σ a = none → E.M.off a ∧ a ≠ E.fo) (st : NStep E Λ w ro na num D K P R xs) {t : T} {ys : List MV} (h : TR Λ t ys) : NGoal E w ro na num D K P R xs t ys := by
 induction h with
 | nil =>
  intro i ρ S he hi p h k
  have : i = xs.length := Nat.le_antisymm hi (List.drop_eq_nil_iff.mp he)
  subst this
  exact k ρ S [] p ⟨h.i, ⟨fun U U U U e => e, ⟨[], (List.append_nil _).symm⟩, ⟨[], (List.append_nil _).symm⟩⟩, .nil, (List.append_nil _).symm, rfl⟩
 | @use x r zs a e1 e2 h h1 h2 hr ih => exact ngoal_cons hσ st (t1 := .use x .nil) h (.uv true x x) (fun q => ⟨Nat.zero_le _, q⟩) (fun q => ⟨trivial, q⟩) rfl ih
 | @var x y r zs a e1 e2 h h1 h2 hr ih => exact ngoal_cons hσ st (t1 := .var x y .nil) h (.uv false x y) (fun q => ⟨Nat.zero_le _, q⟩) (fun q => ⟨trivial, q⟩) rfl ih
 | @tr x ti to r zs xi xo a e1 e2 h h1 h2 hi ho hr _ _ ih => exact ngoal_cons hσ st (t1 := .tr x ti to .nil) h (.tr h1 h2 hi ho) (fun q => by simp only [appTE, depE] at q ⊢; lia) (fun q => ⟨⟨q.1, q.2.1, trivial⟩, q.2.2⟩) rfl ih
 | @fn d x ps st' b r zs xb a q p e1 e2 h hq hp h1 h2 hb hr _ ih => exact ngoal_cons hσ st (t1 := .fn d x ps st' b .nil) h (.fn hq hp h1 hb) (fun q => by simp only [appTE, depE] at q ⊢; lia) (fun q => ⟨⟨q.1, q.2.1, trivial⟩, q.2.2⟩) rfl ih
end
end
section
noncomputable def ws (w : N → Str) : List MV := [.str (w 0), .str (w 1), .str (w 2), .str (w 3), .str (w 4)]
theorem ws_at (w : N → Str) (x : N) : (ws w)[((x.val : Nat) : Int).toNat]? = some (.str (w x)) := by
 rw [Int.toNat_natCast]
 obtain ⟨i, h⟩ := x
 dsimp only
 cases i with
 | zero => rfl
 | succ i => cases i with
  | zero => rfl
  | succ i => cases i with
   | zero => rfl
   | succ i => cases i with
    | zero => rfl
    | succ i => cases i with
     | zero => rfl
     | succ i => exact absurd h (Nat.not_lt.mpr (Nat.le_add_left 5 i))
noncomputable def kv (K : List N) : List Int := K.map fun x => ((x.val : Nat) : Int)
theorem kv_map (K : List N) : K.map iv = (kv K).map .int := by unfold kv; rw [List.map_map]; rfl
theorem kv_has (K : List N) (x : N) : (kv K).contains ((x.val : Nat) : Int) = K.contains x := by
 induction K with
 | nil => rfl
 | cons y K ih =>
  show (((y.val : Nat) : Int) :: kv K).contains _ = _
  rw [List.contains_cons, List.contains_cons, ih]
  congr 1
  by_cases h : x = y
  ·subst h; simp
  ·rw [beq_eq_false_iff_ne.mpr h, beq_eq_false_iff_ne]
   intro e; exact h (Fin.ext (Int.natCast_inj.mp e))
theorem iv_lt (x : N) : ((x.val : Nat) : Int) < 2 ^ 63 := by have := x.isLt; lia
theorem CMP_inT {C : Cx} {A : Around} {σ : Sto} {a : Addr} {xs : List Str} {x : Str} {Q : MV → Sto → Prop} (b : Bool) (e : σ a = some (.tuple (xs.map .str))) (hb : xs.contains x = b) (h : Q (.bool b) σ) : CMP C A .In (.str x) (.ref a) σ Q := CMP_in_tstrs e (hb ▸ h)
theorem CMP_notinK {C : Cx} {A : Around} {σ : Sto} {a : Addr} {K : List N} {x : N} {Q : MV → Sto → Prop} (e : σ a = some (.list (K.map iv))) (h : Q (.bool (!K.contains x)) σ) : CMP C A .NotIn (iv x) (.ref a) σ Q :=
 CMP_notin_ints (xs := kv K) (by rw [← kv_map]; exact e) (by rw [kv_has]; exact h)
theorem rIfList {E : EF} {X : FX} {ρ : Loc} {σ : Sto} {κ : KV} {d : Bool} {v : MV} {x : Str} {p1 p2 p3 : Pos} (hn : ρ.lookup x = some v) (h : ∀ a, σ a = none → κ X ρ (.ref a) (σ.set a (.list (if d = true then [] else [v]))))
  (hk : ∀ X, (E X).kindOf x = some .local) (hd : (x == ("__debug__" : Str)) = false) : cIfe E (.List [.Name x p1] p2) (.List [] p3) κ X ρ (!d) σ := by
 cases d with
 | true => exact if_f (rLst (rEvs0 ⟨Nat.zero_le _, h⟩))
 | false => exact if_t (rLst (rEvs1 (rLoc hn (rEvs0 ⟨Nb rfl, h⟩) hk hd) rfl))
theorem rIfNm {E : EF} {X : FX} {ρ : Loc} {σ : Sto} {κ : KV} {d : Bool} {x y : N} {r s : Str} {p1 p2 : Pos} (hr : ρ.lookup r = some (if d = true then .none else iv y)) (hs : ρ.lookup s = some (iv x)) (h : κ X ρ (iv (if d = true then x else y)) σ)
  (hk : ∀ X, (E X).kindOf r = some .local) (hk' : ∀ X, (E X).kindOf s = some .local) (hd : (r == ("__debug__" : Str)) = false) (hd' : (s == ("__debug__" : Str)) = false) : cIfe E (.Name r p1) (.Name s p2) κ X ρ (!d) σ := by
 cases d with
 | true => exact if_f (rLoc hs h hk' hd')
 | false => exact if_t (rLoc hr h hk hd)
structure L5 (fo pw ar kn md : Addr) (ρ : Loc) : Prop where
 f : LK ρ "found" (.ref fo)
 w : LK ρ "words" (.ref pw)
 a : LK ρ "around" (.ref ar)
 k : LK ρ "known" (.ref kn)
 m : LK ρ "made" (.ref md)
structure LT (s : Str) (v2 v3 v4 v5 : MV) (ρ : Loc) : Prop where
 k : LK ρ "kind" (.str s)
 n : LK ρ "name" v2
 r : LK ρ "rest" v3
 i : LK ρ "inner" v4
 o : LK ρ "other" v5
theorem bd1 {n D : Nat} : n + 2 ≤ n + 4 * D + 11 := by lia
theorem bd2 {n D : Nat} : n + 2 * D + 2 ≤ n + 4 * D + 11 := by lia
theorem bd3 {n D : Nat} (h : 1 ≤ D) : n + 4 * (D - 1) + 12 ≤ n + 4 * D + 11 := by lia
theorem md1 {a D : Nat} (h : 1 + a ≤ D) : a ≤ D - 1 ∧ D - 1 < D ∧ 1 ≤ D ∧ a ≤ D :=
 have h3 : 1 ≤ D := Nat.le_trans (Nat.le_add_right 1 a) h
 ⟨Nat.le_sub_of_add_le' h, Nat.sub_lt h3 Nat.one_pos, h3, Nat.le_trans (Nat.le_add_left a 1) h⟩
theorem md2 {a b D : Nat} (h : max (1 + max a b) 0 ≤ D) : a ≤ D - 1 ∧ b ≤ D - 1 ∧ D - 1 < D ∧ 1 ≤ D :=
 have t := md1 (Nat.le_trans (Nat.le_max_left _ _) h)
 ⟨Nat.le_trans (Nat.le_max_left _ _) t.1, Nat.le_trans (Nat.le_max_right _ _) t.1, t.2.1, t.2.2.1⟩
theorem dep_tr {x : N} {ti to : T} {D : Nat} (h : dep (.tr x ti to .nil) ≤ D) : dep ti ≤ D - 1 ∧ dep to ≤ D - 1 ∧ D - 1 < D ∧ 1 ≤ D := md2 h
theorem dep_fn {d st : Bool} {x : N} {ps : List N} {b : T} {D : Nat} (h : dep (.fn d x ps st b .nil) ≤ D) : dep b ≤ D - 1 ∧ D - 1 < D ∧ 1 ≤ D ∧ dep b ≤ D := md1 (Nat.le_trans (Nat.le_max_left (1 + dep b) 0) h)
theorem lim_tr {x e f t si so e1 f1 : Nat} (h : x + e + f + 2 * (1 + si + so + 0) ≤ 800) (h1 : e1 + f1 + t ≤ e + f + 2 * si) : e + f + 2 * si ≤ 800 ∧ e1 + f1 + 2 * so ≤ 800 ∧ si ≤ 1000 ∧ so ≤ 1000 := by lia
theorem kn_le {k D : Nat} (h : k + 2000 * D ≤ 40000) : k + 2000 * (D - 1) ≤ 40000 := Nat.le_trans (Nat.add_le_add_left (Nat.mul_le_mul_left _ (Nat.sub_le D 1)) k) h
theorem kn_le1 {k D : Nat} (h : k + 2000 * D ≤ 40000) (h1 : 1 ≤ D) : k + 1 + 2000 * (D - 1) ≤ 40000 ∧ k + 1 ≤ 4000000 := by
 refine xe11 (Nat.exists_eq_add_of_le' h1) fun d eq1 => ?_; obtain rfl := eq1
 have h2 : k + 1 + 2000 * d ≤ 40000 := Nat.le_trans (by rw [Nat.add_assoc, Nat.add_comm 1]; exact Nat.add_le_add_left (Nat.add_le_add_left (by decide : 1 ≤ 2000) (2000 * d)) k) h
 exact ⟨h2, Nat.le_trans (Nat.le_add_right _ _) (Nat.le_trans h2 (by decide))⟩
theorem NBe.n63 {E : NE} {ro : Role} {na : Addr} {num D : Nat} {t : T} {S : NS} (h : NBe E ro na num D t S) : (num : Int) < 2 ^ 63 := Int.lt_trans (Int.ofNat_lt.mpr (Nat.lt_of_lt_of_le h.hn (Nat.le_trans (Nat.le_trans (Nat.le_add_left ..) (Nat.le_add_right ..)) h.lim))) (by decide)
theorem lim_fn {x e f s : Nat} (h : x + e + f + 2 * (2 + s + 0) ≤ 800) : e + (f + 1) + 2 * s ≤ 800 ∧ s ≤ 400 ∧ f ≤ 1000000 := by lia
theorem own_len {p o k D : Nat} (hp : p ≤ 10) (ho : o ≤ 400) (hk : k + 2000 * D ≤ 40000) (hD : 1 ≤ D) : p + o ≤ 4000000 ∧ ∀ l, l ≤ 1 → p + o + l ≤ 4000000 ∧ k + (p + o + l) ≤ 4000000 ∧ k + (p + o + l) + 2000 * (D - 1) ≤ 40000 := by
 have h1 : p + o ≤ 410 := Nat.add_le_add hp ho
 refine ⟨Nat.le_trans h1 (by decide), fun l hl => ?_⟩
 have h2 : p + o + l ≤ 2000 := Nat.le_trans (Nat.add_le_add h1 hl) (by decide)
 have h3 : k + (p + o + l) + 2000 * (D - 1) ≤ 40000 := by
  refine Nat.le_trans ?_ hk
  rw [Nat.add_assoc]
  refine Nat.add_le_add_left ?_ k
  refine xe11 (Nat.exists_eq_add_of_le' hD) fun d eq1 => ?_; obtain rfl := eq1
  exact Nat.le_trans (Nat.add_le_add_right h2 _) (Nat.le_of_eq (Nat.add_comm _ _))
 exact ⟨Nat.le_trans h2 (by decide), Nat.le_trans (Nat.le_add_right _ _) (Nat.le_trans h3 (by decide)), h3⟩
theorem fold_map {α : Type} (f : α → MV) : ∀ (l : List α) (s : List MV), l.foldl (fun s y => s ++ [f y]) s = s ++ l.map f := by
 intro l
 induction l with
 | nil => exact fun s => (List.append_nil s).symm
 | cons y l ih => intro s; rw [List.foldl_cons, ih, List.append_assoc]; rfl
section
variable {E : NE} {G : NG} {X : List MV} {τ τb : Sto}
theorem nd_of {G' : NG} {a p : Addr} {kd : Str} {ps : List MV} (na : New E G a) (ea : τ a = some (.inst 31 (nodeFs kd (.int 1) (.ref p)))) (np : New E G' p) (ep : τ p = some (.list ps)) : Nd (fr E.σ τ) a kd p ps := ⟨⟨_, fr_at.mpr ⟨na.n1, ea⟩, rfl, rfl, Nat.le_refl _⟩, fr_at.mpr ⟨np.n1, ep⟩⟩
variable {C : Cx} {A : Around} {Q : MV → Sto → Prop}
theorem BW.alN (h : BW E G X τb τ) {o : MO} {κ : MV → Sto → Prop} (k : ∀ d τ', BW E G X τb τ' → New E G d → τ' d = some o → Sub τ τ' → τ d = none → κ (.ref d) τ') : ∀ d, τ d = none → κ (.ref d) (τ.set d o) :=
 fun d hd => h.al (κ := fun v τ' => v = .ref d → κ (.ref d) τ') (fun d' τ' b n e s q => by cases q; exact k d τ' b n e s hd) d hd rfl
theorem BW.metF (h : BW E G X τb τ) {P : MV → List MV → Sto → Prop} (k : P (.builtin "list.append") [.ref E.fo] τ) : METH C A (.ref E.fo) "append" τ P := METH_append h.i.ffo k
theorem BW.met0 (h : BW E G X τb τ) {P : MV → List MV → Sto → Prop} (k : P (.builtin "list.append") [.ref E.M.m0] τ) : METH C A (.ref E.M.m0) "append" τ P := h.i.bs.e0.elim fun U e => METH_append e.1 k
theorem BW.met1 (h : BW E G X τb τ) {P : MV → List MV → Sto → Prop} (k : P (.builtin "list.append") [.ref E.M.m1] τ) : METH C A (.ref E.M.m1) "append" τ P := h.i.bs.e1.elim fun U e => METH_append e.1 k
theorem BW.m1 (h : BW E G X τb τ) : ∃ ys, τ E.M.m1 = some (.list ys) ∧ ys.length = G.B.fl.length := h.i.bs.e1.elim fun ys e => ⟨ys, e.1, by rw [← e.2.1, enumF_len]⟩
theorem BW.calF (h : BW E G X τb τ) {v : MV} (hl : X.length ≤ 1000) (k : ∀ τ', BW E G (X ++ [v]) τb τ' → Q .none τ') : CALL C A (.builtin "list.append") [.ref E.fo, v] τ Q := CALL_append h.i.ffo (Nat.le_trans hl (Nb rfl)) (k _ h.found)
theorem BW.cal0 (h : BW E G X τb τ) {t na : Addr} {ro : Role} {num : Nat} {K : List N} {x : N} (nt : New E G t) (et : τ t = some (.tuple [.ref na, .int (num : Int), iv x, .bool (!K.contains x)])) (hr : nodeOf G.fa G.ta ro = some na) (hl : G.B.ents.length ≤ 1001)
  (k : ∀ τ' Θ', BW E (G.ent Θ' ro num K x) X τb τ' → Q .none τ') : CALL C A (.builtin "list.append") [.ref E.M.m0, .ref t] τ Q := by
 refine xe23 (h.ent (K := K) nt et hr) fun xs Θ' e hx bw => ?_
 exact CALL_append e (by rw [hx]; exact Nat.le_trans hl (Nb rfl)) (k _ _ bw)
theorem BW.calE (h : BW E G X τb τ) {G0 : NG} {p d : Addr} {ys xs : List MV} (np : New E G0 p) (hθ : G.Θ p = none) (ep : τ p = some (.list ys)) (e : τ d = some (.list xs)) (hy : ys.length ≤ 1000) (hx : xs.length ≤ 1000)
  (k : ∀ τ', BW E G X τ' τ' → τ' p = some (.list (ys ++ xs)) → (∀ a o, a ≠ p → τ a = some o → τ' a = some o) → Q .none τ') : CALL C A (.builtin "list.extend") [.ref p, .ref d] τ Q :=
 CALL_extend ep e (Nat.le_trans hy (Nb rfl)) (Nat.le_trans hx (Nb rfl)) (k _ (h.turn np hθ) (Sto.set_self ..) fun U U => keep_ne)
theorem BW.node (hK : PK C) {n : Nat} (b : Bud A (n + 2)) (h : BW E G X τb τ) {p : Addr} {kd : Str} (k : ∀ d τ', BW E G X τb τ' → New E G d → τ' d = some (.inst 31 (nodeFs kd (.int 1) (.ref p))) → Sub τ τ' → Q (.ref d) τ') : CALL C A (.ref 31) [.str kd, .int 1, .ref p] τ Q :=
 Node_new hK b rfl rfl (h.al k)
end
section
variable {C : Cx} (hK : PK C) {n : Nat} {Λ : Sto} {w : N → Str} {M : M3} {pw md : Addr}
include hK
theorem nodes_C (hΛ : ∀ a, Λ a ≠ none → M.off a) (opw : M.off pw) : ∀ (D : Nat) {A : Around} {σ : Sto} {G : NG} {t : T} {xs : List MV} {p ar kn na : Addr} {ro : Role} {num : Nat} {K : List N} {Q : MV → Sto → Prop}, Bud A (n + 4 * D + 12) → TR Λ t xs → Sub Λ σ → Λ p = some (.list xs) → dep t ≤ D → okB t → G.B.ents.length + G.B.nf + 2 * sz t ≤ 800 →
  σ pw = some (.list (ws w)) → σ ar = some (.tuple [.ref na, .int (num : Int)]) → nodeOf G.fa G.ta ro = some na → σ kn = some (.list (K.map iv)) → M.off kn → σ md = some (.tuple [.ref M.m0, .ref M.m1, .ref M.m2]) → BS M G σ → num < G.B.nf → K.length + 2000 * D ≤ 40000 →
  (∀ d xs' σ' G', NR M σ σ' G G' → G'.B = bld t ro num K G.B → fr σ σ' d = some (.list xs') → Ast (fr σ σ') w G'.fa G'.ta t G.B.nf G.B.nt xs' → Q (.ref d) σ') →
  CALLC C A (.ref 336) [.ref p, .ref pw, .ref ar, .ref kn, .ref md] σ Q := by
 intro D
 induction D using Nat.strongRecOn with
 | ind D IH =>
 intro A σ G t xs p ar kn na ro num K Q b tr sub ep hdp hok hlim epw ear hro ekn okn emd bs hnum hKl h
 refine runFn hK (f := 336) ["some", "words", "around", "known", "made"] (fun U => rfl) (fun U => rfl) rfl rfl (ar5 fun U U U U U => rfl) rfl rfl b fun X e1 e2 hK b' => ?_
 subst e1 e2
 walk_at "S"
 refine ⟨Nat.zero_le _, fun fo hfo => ?_⟩
 walk_at "S"
 have oar := bs.offT ear
 have omd := bs.offT emd
 have op : M.off p := hΛ p (ns ep)
 have hσ1 : ∀ a, (σ.set fo (.list [])) a = none → M.off a ∧ a ≠ fo := fun a e => ⟨bs.off (set_dom e).1, (set_dom e).2⟩
 have i0 : IN ⟨M, fo, σ.set fo (.list []), G.Θ⟩ G [] (σ.set fo (.list [])) := ⟨bs.sub (Sub.new hfo), Sto.set_self .., bs.off hfo, none_of hfo fun x e => bs.s _ _ e, fun U U U U e => e, Sub.refl, fun a h1 h2 => absurd h2 h1⟩
 have sσ : ∀ a o, M.off a → σ a = some o → (σ.set fo (.list [])) a = some o ∧ a ≠ fo := fun a o U e => ⟨keep_new hfo e, fun q => by rw [q, hfo] at e; exact nn e⟩
 have dσ : ∀ a, (σ.set fo (.list [])) a = none → σ a = none := fun a e => (set_dom e).1
 refine ITR_list (keep_new hfo (sub _ _ ep)) ?_
 generalize σ.set fo (.list []) = σ1 at hσ1 i0 sσ dσ ⊢
 have cs : ∀ {G' : NG} {Y : List MV} {τb τ : Sto}, BW ⟨M, fo, σ1, G.Θ⟩ G' Y τb τ → ∀ a o, M.off a → σ a = some o → τ a = some o := fun bw a o h1 e => bw.i.ext a o h1 (sσ a o h1 e).2 (sσ a o h1 e).1
 have cpw : ∀ {G' : NG} {Y : List MV} {τb τ : Sto}, BW ⟨M, fo, σ1, G.Θ⟩ G' Y τb τ → τ pw = _ := fun bw => cs bw _ _ opw epw
 have car : ∀ {G' : NG} {Y : List MV} {τb τ : Sto}, BW ⟨M, fo, σ1, G.Θ⟩ G' Y τb τ → τ ar = _ := fun bw => cs bw _ _ oar ear
 have ckn : ∀ {G' : NG} {Y : List MV} {τb τ : Sto}, BW ⟨M, fo, σ1, G.Θ⟩ G' Y τb τ → τ kn = _ := fun bw => cs bw _ _ okn ekn
 have cmd : ∀ {G' : NG} {Y : List MV} {τb τ : Sto}, BW ⟨M, fo, σ1, G.Θ⟩ G' Y τb τ → τ md = _ := fun bw => cs bw _ _ omd emd
 have cL : ∀ {G' : NG} {Y : List MV} {τb τ : Sto}, BW ⟨M, fo, σ1, G.Θ⟩ G' Y τb τ → Sub Λ τ := fun bw a o e => cs bw a o (hΛ a (ns e)) (sub _ _ e)
 refine nodes_loop (E := ⟨M, fo, σ1, G.Θ⟩) (Λ := Λ) (D := D) (w := w) (ro := ro) (na := na) (num := num) (K := K) (xs := xs) (P := L5 fo pw ar kn md) (R := fun i ρ S => RF _ _ _ _ _ (.list p i) X ρ S.τ) hσ1 ?_ tr 0 _ ⟨σ1, G, []⟩ (List.drop_zero) (Nat.zero_le _) ⟨rfl, rfl, rfl, rfl, rfl⟩ ⟨i0, hdp, hok, by show 0 + _ + _ + _ ≤ 800; rw [Nat.zero_add]; exact hlim, hnum, hro⟩ ?_
 ·intro i ρ S t1 a s v2 v3 v4 v5 l hi ht k5 nb k
  have bw : BW ⟨M, fo, σ1, G.Θ⟩ S.G S.X S.τ S.τ := ⟨nb.i, fun U U U U e => e⟩
  have hX : S.X.length ≤ 800 := Nat.le_trans (Nat.le_trans (Nat.le_trans (Nat.le_add_right ..) (Nat.le_add_right ..)) (Nat.le_add_right ..)) nb.lim
  refine rFL b'.h (cL bw _ _ ep) (fun v hv => ?_) (fun hn => by exact sn (hi.symm.trans hn))
  obtain rfl := Option.some.inj (hi.symm.trans hv)
  refine rAT b'.h (cL bw _ _ ht) ?_ (by walk_at "=i") (by walk_at "=o")
  repeat walk_at "a"
  have l' : L5 fo pw ar kn md (setL (setL (setL (setL (setL ρ "kind" (.str s)) "name" v2) "rest" v3) "inner" v4) "other" v5) := by
   obtain ⟨l1, l2, l3, l4, l5⟩ := l
   exact ⟨by walk_at "lk", by walk_at "lk", by walk_at "lk", by walk_at "lk", by walk_at "lk"⟩
  have lt' : LT s v2 v3 v4 v5 (setL (setL (setL (setL (setL ρ "kind" (.str s)) "name" v2) "rest" v3) "inner" v4) "other" v5) := ⟨by walk_at "lk", by walk_at "lk", by walk_at "lk", by walk_at "lk", by walk_at "lk"⟩
  show RX _ _ _ _ (setL (setL (setL (setL (setL ρ "kind" (.str s)) "name" v2) "rest" v3) "inner" v4) "other" v5) _
  generalize setL (setL (setL (setL (setL ρ "kind" (.str s)) "name" v2) "rest" v3) "inner" v4) "other" v5 = ρ at l' lt' ⊢
  clear hv hi ht l
  obtain ⟨l1, l2, l3, l4, l5⟩ := id l'
  obtain ⟨t1, t2, t3, t4, t5⟩ := id lt'
  walk_at "S"
  refine ⟨Nb rfl, bw.al fun tt τ bw U ett st => ?_⟩
  cases k5 with
  | uv d x y =>
   refine CMP_inT (xs := ["use", "var"]) true ett (by cases d <;> rfl) ?_
   walk_at "S"
   refine ⟨Nb rfl, bw.al fun q1 τ bw U eq1 s1 => ?_⟩
   walk_at "S"
   have hk1 : ((if d = true then Str.ofString "use" else Str.ofString "var") == Str.ofString "var") = !d := by cases d <;> rfl
   rw [hk1]
   refine rIfList t3 (bw.al fun q2 τ bw U eq2 s2 => ?_) (by walk_at "=l") (by walk_at "=f")
   refine BIN_add_list (s2 _ _ eq1) eq2 (by cases d <;> exact Nb rfl) (bw.al fun q3 τ bw nq3 eq3 s3 => ?_)
   have hz : [iv x] ++ (if d = true then [] else [if d = true then MV.none else iv y]) = (x :: if d = true then [] else [y]).map iv := by cases d <;> rfl
   rw [hz] at eq3
   clear hz
   have sK := st.trans (s1.trans (s2.trans s3))
   refine ITR_list eq3 ?_
   have hents : S.G.B.ents.length ≤ 800 := Nat.le_trans (Nat.le_trans (Nat.le_trans (Nat.le_add_left ..) (Nat.le_add_right ..)) (Nat.le_add_right ..)) nb.lim
   refine up_fold (ys := x :: if d = true then [] else [y]) (f := fun (B : BA) z => entB B ro num K z) (P := fun ρ => L5 fo pw ar kn md ρ ∧ LT _ (iv x) (if d = true then .none else iv y) v4 v5 ρ) (R := fun i ρ B => ∀ τ' G', B = G'.B → G'.fa = S.G.fa → G'.ta = S.G.ta → B.ents.length = S.G.B.ents.length + i → BW ⟨M, fo, σ1, G.Θ⟩ G' S.X τ τ' → RF _ _ _ _ _ (.list q3 i) X ρ τ') ?_ _ 0 _ S.G.B (Nat.zero_add _) ⟨l', lt'⟩ ?_ τ S.G rfl rfl rfl rfl bw.ck
   ·intro j z ρ B pp hz k τ G' e1 e2 e3 e4 bw
    refine xe02 pp fun l' lt' => ?_
    obtain ⟨l1, l2, l3, l4, l5⟩ := id l'
    obtain ⟨t1, t2, t3, t4, t5⟩ := id lt'
    refine rFL b'.h (bw.c _ _ nq3.off nq3.nf eq3) (fun v hv => ?_) (fun hn => by rw [List.getElem?_map, hz] at hn; exact sn hn)
    rw [List.getElem?_map, hz] at hv; obtain rfl := si hv
    walk_at "a"
    walk_at "S"
    refine SUB_tuple (cmd bw) (Int.le_refl _) (by decide) rfl ?_
    refine bw.met0 ?_
    walk_at "S"
    refine SUB_tuple (car bw) (Int.le_refl _) (by decide) rfl ?_
    walk_at "S"
    refine SUB_tuple (car bw) (by decide) (by decide) rfl ?_
    walk_at "S"
    refine CMP_notinK (ckn bw) ?_
    walk_at "S"
    refine ⟨Nb rfl, bw.al fun te τ bw nte ete U => ?_⟩
    walk_at "S"
    refine bw.cal0 nte ete (by rw [e2, e3]; exact nb.ro) (by rw [← e1, e4]; exact Nat.le_trans (Nat.add_le_add hents (Nat.le_of_lt (Gs hz).1)) (by cases d <;> exact Nb rfl)) fun τ Θ2 bw => ?_
    walk_at "S"
    exact k _ ⟨⟨by walk_at "lk", by walk_at "lk", by walk_at "lk", by walk_at "lk", by walk_at "lk"⟩, by walk_at "lk", by walk_at "lk", by walk_at "lk", by walk_at "lk", by walk_at "lk"⟩ τ (G'.ent Θ2 ro num K z) (by rw [e1]; rfl) e2 e3 (by show (_ ++ [_]).length = _; rw [List.length_append, e4]; rfl) bw
   intro ρ pp τ G' e1 e2 e3 _ bw
   obtain ⟨⟨l1, l2, l3, l4, l5⟩, t1, t2, t3, t4, t5⟩ := pp
   refine rFL b'.h (bw.c _ _ nq3.off nq3.nf eq3) (fun v hv => by have := (Gs hv).1; rw [List.length_map] at this; exact absurd this (Nat.lt_irrefl _)) (fun U => ?_)
   have K0 : ∀ a o, M.off a → a ≠ fo → S.τ a = some o → τ a = some o := fun a o h1 h2 e => bw.c a o h1 h2 (sK _ _ e)
   have bw := bw.ck
   walk_at "S"
   rw [hk1]
   refine rIfNm t3 t2 ?_ (by walk_at "=l") (by walk_at "=l") (by walk_at "=f") (by walk_at "=f")
   refine SUB_list (cpw bw) (Int.natCast_nonneg _) (iv_lt _) (ws_at w _) ?_
   walk_at "S"
   refine ⟨Nb rfl, bw.al fun pl τ bw npl epl s1 => ?_⟩
   walk_at "S"
   refine bw.node hK (b'.mono bd1) fun lf τ bw nlf elf s2 => ?_
   walk_at "S"
   refine bw.metF ?_
   walk_at "S"
   have hk2 : ((if d = true then Str.ofString "use" else Str.ofString "var") == Str.ofString "use") = d := by cases d <;> rfl
   rw [hk2]
   have hB : G'.B = (x :: if d = true then [] else [y]).foldl (fun (B : BA) z => entB B ro num K z) S.G.B := e1.symm
   cases d with
   | true =>
    refine if_t ?_
    walk_at "S"
    refine ⟨Nb rfl, bw.al fun pe τ bw npe epe s3 => ?_⟩
    walk_at "S"
    refine bw.node hK (b'.mono bd1) fun e τ bw ne ee s4 => ?_
    walk_at "S"
    have s24 := s2.trans (s3.trans s4)
    refine bw.ck.calF (Nat.le_trans hX (Nb rfl)) fun τ bw => ?_
    walk_at "S"
    have cc := bw.c
    exact k _ ⟨τ, _, _⟩ (.ref e) ⟨by walk_at "lk", by walk_at "lk", by walk_at "lk", by walk_at "lk", by walk_at "lk"⟩ ⟨bw.i, ⟨fun a o h1 h2 q => cc a o h1 h2 (s24 _ _ (s1 _ _ (K0 a o h1 h2 q))), ⟨[], e2.trans (List.append_nil _).symm⟩, ⟨[], e3.trans (List.append_nil _).symm⟩⟩,
     Ast.use (nd_of ne (cc _ _ ne.off ne.nf ee) npe (cc _ _ npe.off npe.nf (s4 _ _ epe))) (nd_of nlf (cc _ _ nlf.off nlf.nf (s4 _ _ (s3 _ _ elf))) npl (cc _ _ npl.off npl.nf (s24 _ _ epl))) .nil, rfl, hB⟩
   | false =>
    refine if_f ?_
    walk_at "S"
    refine SUB_list (cpw bw) (Int.natCast_nonneg _) (iv_lt x) (ws_at w x) ?_
    walk_at "S"
    refine ⟨Nb rfl, bw.al fun tp τ bw ntp etp s3 => ?_⟩
    walk_at "S"
    refine ⟨Nb rfl, bw.al fun q τ bw nq eq s4 => ?_⟩
    walk_at "S"
    refine ⟨Nb rfl, bw.al fun pe τ bw npe epe s5 => ?_⟩
    walk_at "S"
    refine bw.node hK (b'.mono bd1) fun e τ bw ne ee s6 => ?_
    walk_at "S"
    have s56 := s5.trans s6
    have s36 := s3.trans (s4.trans s56)
    refine bw.ck.calF (Nat.le_trans hX (Nb rfl)) fun τ bw => ?_
    walk_at "S"
    have cc := bw.c
    exact k _ ⟨τ, _, _⟩ (.ref e) ⟨by walk_at "lk", by walk_at "lk", by walk_at "lk", by walk_at "lk", by walk_at "lk"⟩ ⟨bw.i, ⟨fun a o h1 h2 q => cc a o h1 h2 (s36 _ _ (s2 _ _ (s1 _ _ (K0 a o h1 h2 q)))), ⟨[], e2.trans (List.append_nil _).symm⟩, ⟨[], e3.trans (List.append_nil _).symm⟩⟩,
     Ast.var (nd_of ne (cc _ _ ne.off ne.nf ee) npe (cc _ _ npe.off npe.nf (s6 _ _ epe))) (fr_at.mpr ⟨nq.n1, cc _ _ nq.off nq.nf (s56 _ _ eq)⟩) (fr_at.mpr ⟨ntp.n1, cc _ _ ntp.off ntp.nf (s56 _ _ (s4 _ _ etp))⟩) (nd_of nlf (cc _ _ nlf.off nlf.nf (s36 _ _ elf)) npl (cc _ _ npl.off npl.nf (s36 _ _ (s2 _ _ epl)))) .nil, rfl, hB⟩
  | @tr x ti to xi xo e1 e2 he1 he2 tri tro =>
   refine CMP_inT (xs := ["use", "var"]) false ett rfl ?_
   walk_at "S"
   refine ⟨Nat.zero_le _, bw.alN fun pi τ bw npi epi s1 hpi => ?_⟩
   walk_at "S"
   refine SUB_list (cpw bw) (Int.natCast_nonneg _) (iv_lt x) (ws_at w x) ?_
   walk_at "S"
   refine ⟨Nat.zero_le _, bw.alN fun po τ bw npo epo s2 hpo => ?_⟩
   have hpio : pi ≠ po := fun q => by rw [q, hpo] at epi; exact nn epi
   have hS : ∀ a o, S.τ a = some o → a ≠ pi ∧ a ≠ po := fun a o e => ⟨fun q => (by rw [← q, st _ _ e] at hpi; exact sn hpi), fun q => (by rw [← q, s1 _ _ (st _ _ e)] at hpo; exact sn hpo)⟩
   walk_at "S"
   refine ⟨Nb rfl, bw.al fun pp τ bw npp epp s3 => ?_⟩
   walk_at "S"
   refine bw.node hK (b'.mono bd1) fun nd τ bw nnd end_ s4 => ?_
   walk_at "S"
   have epp := s4 _ _ epp
   have epo := s4 _ _ (s3 _ _ epo)
   have epi := s4 _ _ (s3 _ _ (s2 _ _ epi))
   have sK := st.trans (s1.trans (s2.trans (s3.trans s4)))
   refine xe03 (bw.ck.tnode nnd end_ nb.hn) fun g1 g2 bwt => ?_
   have hn63 := nb.n63
   refine SUB_tuple (cmd bw) (by decide) (by decide) rfl ?_
   walk_at "S"
   refine SUB_tuple (car bw) (by decide) (by decide) rfl ?_
   refine SUB_list g1 (Int.natCast_nonneg _) hn63 g2 ?_
   walk_at "S"
   refine SUB_tuple (cmd bw) (by decide) (by decide) rfl ?_
   walk_at "S"
   refine SUB_tuple (car bw) (by decide) (by decide) rfl ?_
   refine SETI_list g1 (Int.natCast_nonneg _) hn63 (Gs g2).1 ?_
   show RX _ _ _ _ _ (τ.set M.m2 (.list ((S.G.B.trs.map fun (n : Nat) => MV.int n).set num (.int ((S.G.B.trs.getD num 0 : Nat) + 1)))))
   have dK : ∀ a, τ a = none → M.off a ∧ a ≠ fo ∧ σ1 a = none ∧ a ≠ pi ∧ a ≠ po := fun a e => ⟨(bw.i.new e).off, (bw.i.new e).nf, (bw.i.new e).n1, ⟨fun q => (by rw [q, epi] at e; exact sn e), fun q => (by rw [q, epo] at e; exact sn e)⟩⟩
   have dτ : ∀ a, (τ.set M.m2 (.list ((S.G.B.trs.map fun (n : Nat) => MV.int n).set num (.int ((S.G.B.trs.getD num 0 : Nat) + 1))))) a = none → τ a = none := fun a e => (set_dom e).1
   generalize τ.set M.m2 (.list ((S.G.B.trs.map fun (n : Nat) => MV.int n).set num (.int ((S.G.B.trs.getD num 0 : Nat) + 1)))) = τt at bwt dτ ⊢
   clear bw g1 g2
   refine xe04 (dep_tr nb.d) fun hd1 hd2 hD hD1 => ?_
   refine xe03 (bld_n ti ro num K (S.G.trn nd num).B) fun bi1 bi2 bi3 => ?_
   refine xe03 (lim_tr nb.lim bi3) fun L1 L2 L3 => ?_
   have bK : Bud X.A (n + 4 * (D - 1) + 12) := b'.mono (bd3 hD1)
   refine xe03 nb.ob fun ok1 ok2 U => ?_
   walk_at "S"
   refine GET_own (bwt.c _ _ nnd.off nnd.nf end_) (by rfl) (OA_node hK (by decide)) ?_
   walk_at "S"
   refine SUB_list (bwt.c _ _ npp.off npp.nf epp) (Int.le_refl _) (by decide) rfl ?_
   refine METH_extend (bwt.c _ _ npi.off npi.nf epi) ?_
   walk_at "S"
   refine (IH (D - 1) hD (G := S.G.trn nd num) bK tri (cL bwt) he1 hd1 ok1 L1 (cpw bwt) (car bwt) (nodeOf_t nb.ro) (ckn bwt) okn (cmd bwt) bwt.i.bs nb.hn (kn_le hKl) fun d1 ys1 τ1 G1 r1 hB1 ed1 ast1 => ?_).call
   walk_at "S"
   have bw1 := bwt.call r1
   have il : ys1.length ≤ 1000 := by rw [ast1.len]; exact Nat.le_trans (topN_le ti) L3.1
   refine bw1.calE npi (r1.θ (bwt.c _ _ npi.off npi.nf epi) npi.θ) (bw1.c _ _ npi.off npi.nf epi) (fr_at.mp ed1).2 (Nat.zero_le _) il fun τ2 bw2 epi2 kk => ?_
   have nnp : nd ≠ pi ∧ nd ≠ po := ⟨fun q => (by rw [q, epi] at end_; cases end_), fun q => (by rw [q, epo] at end_; cases end_)⟩
   have npq : pp ≠ pi ∧ pp ≠ po := ⟨fun q => (by rw [q, epi] at epp; cases epp), fun q => (by rw [q, epo] at epp; cases epp)⟩
   have end2 := kk _ _ nnp.1 (bw1.c _ _ nnd.off nnd.nf end_)
   have epp2 := kk _ _ npq.1 (bw1.c _ _ npp.off npp.nf epp)
   have epo2 := kk _ _ hpio.symm (bw1.c _ _ npo.off npo.nf epo)
   have K2 : ∀ a o, M.off a → a ≠ fo → S.τ a = some o → τ2 a = some o := fun a o h1 h2 e => kk a o (hS a o e).1 (bw1.c a o h1 h2 (sK _ _ e))
   have hθo : G1.Θ po = none := r1.θ (bwt.c _ _ npo.off npo.nf epo) npo.θ
   walk_at "S"
   refine GET_own end2 (by rfl) (OA_node hK (by decide)) ?_
   walk_at "S"
   refine SUB_list epp2 (by decide) (by decide) rfl ?_
   refine METH_extend epo2 ?_
   walk_at "S"
   refine SUB_tuple (car bw2) (by decide) (by decide) rfl ?_
   walk_at "S"
   refine ⟨Nb rfl, bw2.al fun ar2 τ3 bw3 nar2 ear2 s5 => ?_⟩
   walk_at "S"
   refine ⟨Nb rfl, bw3.al fun kl τ4 bw4 nkl ekl s6 => ?_⟩
   refine xe02 (kn_le1 hKl hD1) fun kb1 kb2 => ?_
   refine BIN_add_list (ckn bw4) ekl (by rw [List.length_map]; exact kb2) (bw4.al fun kn2 τ5 bw5 nkn2 ekn2 s7 => ?_)
   walk_at "S"
   rw [show K.map iv ++ [iv x] = (K ++ [x]).map iv from (List.map_append (l₂ := [x])).symm] at ekn2
   have hct : nodeOf G1.fa G1.ta (.ct S.G.B.nt) = some nd := by
    refine xe11 r1.t fun f e => ?_
    show G1.ta[S.G.B.nt]? = some nd
    rw [e]; exact pre_get (by show (S.G.ta ++ [nd])[S.G.B.nt]? = _; rw [← nb.i.bs.lt, List.getElem?_append_right (Nat.le_refl _), Nat.sub_self]; rfl)
   rw [← hB1] at bi1 bi2 L2
   refine (IH (D - 1) hD (G := G1) bK tro (cL bw5) he2 hd2 ok2 L2 (cpw bw5) (s7 _ _ (s6 _ _ ear2)) hct ekn2 nkn2.off (cmd bw5) bw5.i.bs (Nat.lt_of_lt_of_le nb.hn (by rw [bi1]; exact Nat.le_add_right ..)) (by rw [List.length_append]; exact kb1) fun d2 ys2 τ6 G2 r2 hB2 ed2 ast2 => ?_).call
   walk_at "S"
   have bw6 := bw5.call r2
   have ol : ys2.length ≤ 1000 := by rw [ast2.len]; exact Nat.le_trans (topN_le to) L3.2
   have s57 := s5.trans (s6.trans s7)
   refine bw6.calE npo (r2.θ (s57 _ _ epo2) hθo) (bw6.c _ _ npo.off npo.nf epo2) (fr_at.mp ed2).2 (Nat.zero_le _) ol fun τ7 bw7 epo7 kk7 => ?_
   walk_at "S"
   refine bw7.metF ?_
   walk_at "S"
   refine bw7.calF (Nat.le_trans hX (Nb rfl)) fun τ8 bw8 => ?_
   walk_at "S"
   have c8 := bw8.c
   have c6 := bw6.c
   refine xe11 r1.f fun f1 hf1 => ?_
   refine xe11 r1.t fun t1 ht1 => ?_
   refine xe11 r2.f fun f2 hf2 => ?_
   refine xe11 r2.t fun t2 ht2 => ?_
   rw [bi1, bi2] at ast2
   have fa1 : ∀ (i : Nat) (a : Addr), G1.fa[i]? = some a → G2.fa[i]? = some a := fun U U h => by rw [hf2]; exact pre_get h
   have ta1 : ∀ (i : Nat) (a : Addr), G1.ta[i]? = some a → G2.ta[i]? = some a := fun U U h => by rw [ht2]; exact pre_get h
   refine k _ ⟨τ8, _, _⟩ (.ref nd) ⟨by walk_at "lk", by walk_at "lk", by walk_at "lk", by walk_at "lk", by walk_at "lk"⟩ ⟨bw8.i, ⟨fun a o h1 h2 e => c8 a o h1 h2 (kk7 a o (hS a o e).2 (c6 a o h1 h2 (K2 a o h1 h2 e))), ⟨f1 ++ f2, by rw [hf2, hf1, List.append_assoc]; rfl⟩, ⟨[nd] ++ (t1 ++ t2), ?_⟩⟩,
    Ast.tr (ta1 _ _ hct) (nd_of nnd (c8 _ _ nnd.off nnd.nf (kk7 _ _ nnp.2 (c6 _ _ nnd.off nnd.nf end2))) npp (c8 _ _ npp.off npp.nf (kk7 _ _ npq.2 (c6 _ _ npp.off npp.nf epp2)))) (fr_at.mpr ⟨npi.n1, c8 _ _ npi.off npi.nf (kk7 _ _ hpio (c6 _ _ npi.off npi.nf epi2))⟩) (fr_at.mpr ⟨npo.n1, c8 _ _ npo.off npo.nf epo7⟩)
     (ast1.mono (fr_mono (fun a e => (dK a (dτ a e)).2.2.1) fun a o e1 e2 => ?_) fa1 ta1) (ast2.mono (fr_mono (fun a e => (bw5.i.new e).n1) fun a o e1 e2 => ?_) (fun U U h => h) fun U U h => h) .nil, rfl, by rw [hB2, hB1]; rfl⟩
   ·show G2.ta = S.G.ta ++ _
    rw [ht2, ht1]; show (S.G.ta ++ [nd] ++ t1) ++ t2 = _; simp only [List.append_assoc]
   ·refine xe05 (dK a (dτ a e1)) fun h1 h2 U h4 h5 => ?_
    exact c8 a o h1 h2 (kk7 a o h5 (c6 a o h1 h2 (kk a o h4 e2)))
   ·have n5 := bw5.i.new e1
    exact c8 a o n5.off n5.nf (kk7 a o (fun q => by rw [q, s57 _ _ epo2] at e1; exact sn e1) e2)
  | @fn d x ps sb b xb q p' e1 v5 hq hp he1 trb =>
   refine CMP_inT (xs := ["use", "var"]) false ett (by cases d <;> rfl) ?_
   walk_at "S"
   have hk2 : ((if d = true then Str.ofString "decl" else Str.ofString "expr") == Str.ofString "try") = false := by cases d <;> rfl
   rw [hk2]
   walk_at "S"
   refine SUB_list (cpw bw) (Int.natCast_nonneg _) (iv_lt x) (ws_at w x) ?_
   refine xe03 nb.ob fun okp ok1 U => ?_
   walk_at "S"
   walk_at "a"
   walk_at "S"
   refine SUB_tuple (cL bw _ _ hq) (Int.le_refl _) (by decide) rfl ?_
   refine ITR_list (cL bw _ _ hp) ⟨rfl, fun acc L2 hacc => ?_⟩
   refine up_fold (ys := ps) (f := fun (s : List MV) y => s ++ [.str (w y)]) (P := fun ρ => LK ρ "words" (.ref pw)) (R := fun i ρ s => s.length = i → RC _ _ _ _ _ _ _ _ acc (.list p' i) (X.at_ L2) ρ (τ.set acc (.list s))) ?_ ps.length 0 _ [] (Nat.zero_add _) (cfree_one (by walk_at "lk")) ?_ rfl
   ·intro j y ρ' s l6 hy kc hj
    refine rCL b'.h (keep_new hacc (cL bw _ _ hp)) (fun v hv => ?_) (fun hn => by rw [List.getElem?_map, hy] at hn; exact sn hn)
    rw [List.getElem?_map, hy] at hv; obtain rfl := si hv
    walk_at "a"
    walk_at "S"
    refine SUB_list (keep_new hacc (cpw bw)) (Int.natCast_nonneg _) (iv_lt y) (ws_at w y) ?_
    refine ⟨s, Sto.set_self .., by rw [hj]; exact Nat.le_trans (Nat.le_of_lt (Gs hy).1) (Nat.le_trans okp (Nb rfl)), ?_⟩
    rw [set_set]
    exact kc _ (look_ne (by walk_at "f") l6) (by rw [List.length_append, hj]; rfl)
   intro ρ' l6 hj
   refine rCL b'.h (keep_new hacc (cL bw _ _ hp)) (fun v hv => by have := (Gs hv).1; rw [List.length_map] at this; exact absurd this (Nat.lt_irrefl _)) (fun U => ⟨fun q hq => ?_, ?_⟩)
   ·rw [List.mem_singleton] at hq; subst hq; exact l6.trans (Eq.symm (by show List.lookup (Str.ofString "words") _ = _; walk_at "lk"))
   rw [List.drop_zero, show ps.foldl (fun (s : List MV) y => s ++ [.str (w y)]) [] = ps.map fun x => .str (w x) from fold_map _ ps []]
   clear hj
   revert hacc
   revert acc
   refine fun acc hacc => bw.al (κ := fun v τ => _) (fun pl τ bw npl epl s1 => ?_) acc hacc
   walk_at "S"
   refine ⟨Nat.zero_le _, bw.alN fun pb τ bw npb epb s2 hpb => ?_⟩
   have hS : ∀ a o, S.τ a = some o → a ≠ pb := fun a o e q => by rw [← q, s1 _ _ (st _ _ e)] at hpb; exact sn hpb
   have npl' : pl ≠ pb := fun q => by rw [q, hpb] at epl; exact nn epl
   walk_at "S"
   refine SUB_tuple (cL bw _ _ hq) (by decide) (by decide) rfl ?_
   walk_at "S"
   refine ⟨Nb rfl, bw.al fun pp τ bw npp epp s3 => ?_⟩
   walk_at "S"
   refine bw.node hK (b'.mono bd1) fun nd τ bw nnd end_ s4 => ?_
   walk_at "S"
   refine SUB_tuple (cmd bw) (by decide) (by decide) rfl ?_
   refine bw.met1 ?_
   walk_at "S"
   refine SUB_tuple (cL bw _ _ hq) (Int.le_refl _) (by decide) rfl ?_
   walk_at "S"
   refine xe04 (dep_fn nb.d) fun hd1 hD hD1 hdD => ?_
   refine xe03 (bld_n b (.sc S.G.B.nf) S.G.B.nf (K ++ ((ps ++ ownL b) ++ if d then [] else [x])) (fnB S.G.B (ps ++ ownL b))) fun bi1 bi2 bi3 => ?_
   refine xe03 (lim_fn nb.lim) fun L1 L2 L3 => ?_
   have L4 := Nat.le_trans (Nat.le_trans (Nat.le_succ _) (Nat.le_of_eq nb.i.bs.l1)) L3
   refine xe02 (own_len okp (Nat.le_trans (ownL_len b) L2) hKl hD1) fun oL1 oL2 => ?_
   refine (own_C hK (n := n) D (b'.mono bd2) trb (cL bw) he1 hdD L2 (bw.al fun o1 τ bw U eo1 s5 => ?_)).call
   refine BIN_add_list (cL bw _ _ hp) eo1 (by rw [List.length_map, List.length_map]; exact oL1) (bw.alN fun o2 τ bw no2 eo2 s6 ho2 => ?_)
   have nb2 : pb ≠ o2 := fun q => by have e := s5 _ _ (s4 _ _ (s3 _ _ epb)); rw [q, ho2] at e; exact nn e
   walk_at "S"
   refine ⟨Nb rfl, bw.al fun te τ bw nte ete s7 => ?_⟩
   walk_at "S"
   rw [← List.map_append] at eo2
   have s57 := s5.trans (s6.trans s7)
   have end_ := s57 _ _ end_
   have epp := s57 _ _ (s4 _ _ epp)
   have epb := s57 _ _ (s4 _ _ (s3 _ _ epb))
   have epl := s57 _ _ (s4 _ _ (s3 _ _ (s2 _ _ epl)))
   have sK := st.trans (s1.trans (s2.trans (s3.trans (s4.trans s57))))
   have dK : ∀ a, τ a = none → a ≠ pb := fun a e q => by rw [q, epb] at e; exact sn e
   have nnp : nd ≠ pb := fun q => by rw [q, epb] at end_; cases end_
   have npq : pp ≠ pb := fun q => by rw [q, epb] at epp; cases epp
   have ntb : pb ≠ te := fun q => by rw [← q, epb] at ete; cases ete
   refine xe25 (bw.ck.fnode (own := ps ++ ownL b) nte ete no2 (s7 _ _ eo2) nnd end_) fun ys Θ2 y1 yl y2 bw' sd => ?_
   refine CALL_append y1 (by rw [yl]; exact L4) ?_
   walk_at "S"
   refine SUB_tuple (keep_ne omd.2.1 (cmd bw)) (by decide) (by decide) rfl ?_
   refine METH_append y2 ?_
   walk_at "S"
   refine CALL_append y2 (by rw [List.length_map, bw.i.bs.l2]; exact L3) ?_
   have hθb : Θ2 pb = none := by
    cases q : Θ2 pb with
    | none => rfl
    | some o => exact ((sd pb (ns q)).elim (fun e => absurd e ntb) fun e => e.elim (fun e => absurd e nb2) fun e => absurd npb.θ e)
   show cDrop _ _ _ _ _ _ ((τ.set M.m1 (.list (ys ++ [.ref te]))).set M.m2 (.list ((S.G.B.trs.map fun (n : Nat) => MV.int n) ++ [.int 0])))
   have dN : ∀ a, ((τ.set M.m1 (.list (ys ++ [.ref te]))).set M.m2 (.list ((S.G.B.trs.map fun (n : Nat) => MV.int n) ++ [.int 0]))) a = none → a ≠ pb := fun a e => dK a (set_dom (set_dom e).1).1
   generalize (τ.set M.m1 (.list (ys ++ [.ref te]))).set M.m2 (.list ((S.G.B.trs.map fun (n : Nat) => MV.int n) ++ [.int 0])) = τA at bw' dN ⊢
   clear y1 y2 sd bw dK
   have hro2 : nodeOf (S.G.fa ++ [nd]) S.G.ta (.sc S.G.B.nf) = some nd := by
    show (S.G.fa ++ [nd])[S.G.B.nf]? = some nd
    rw [← nb.i.bs.lf, List.getElem?_append_right (Nat.le_refl _), Nat.sub_self]; rfl
   walk_at "S"
   refine SUB_tuple (cL bw' _ _ hq) (Int.le_refl _) (by decide) rfl ?_
   walk_at "S"
   refine (own_C hK (n := n) D (b'.mono bd2) trb (cL bw') he1 hdD L2 (bw'.al fun o3 τ bw U eo3 s8 => ?_)).call
   refine BIN_add_list (cL bw _ _ hp) eo3 (by rw [List.length_map, List.length_map]; exact oL1) (bw.al fun o4 τ bw U eo4 s9 => ?_)
   walk_at "S"
   have hk3 : ((if d = true then Str.ofString "decl" else Str.ofString "expr") == Str.ofString "expr") = !d := by cases d <;> rfl
   rw [hk3]
   have hlq : (if d = true then ([] : List N) else [x]).length ≤ 1 := by cases d <;> exact Nb rfl
   refine xe03 (oL2 _ hlq) fun m1 m2 m3 => ?_
   refine rIfList (look_ne (by walk_at "f") t2) (bw.al fun lq τ bw U elq s10 => ?_) (by walk_at "=l") (by walk_at "=f")
   have hlv : (if d = true then ([] : List MV) else [iv x]) = (if d = true then ([] : List N) else [x]).map iv := by cases d <;> rfl
   rw [hlv] at elq
   rw [← List.map_append] at eo4
   refine BIN_add_list (s10 _ _ eo4) elq (by rw [List.length_map, List.length_map, List.length_append]; exact m1) (bw.al fun o5 τ bw U eo5 s11 => ?_)
   rw [← List.map_append] at eo5
   have c := bw.c
   walk_at "S"
   refine GET_own (c _ _ nnd.off nnd.nf end_) (by rfl) (OA_node hK (by decide)) ?_
   walk_at "S"
   refine SUB_list (c _ _ npp.off npp.nf epp) (by decide) (by decide) rfl ?_
   refine METH_extend (c _ _ npb.off npb.nf epb) ?_
   walk_at "S"
   refine SUB_tuple (cmd bw) (by decide) (by decide) rfl ?_
   refine xe12 bw.m1 fun zs z1 z2 => ?_
   have hzl : zs.length = S.G.B.nf := z2.trans ((List.length_append ..).trans nb.i.bs.l1)
   walk_at "S"
   refine CALL_len_list z1 (by rw [hzl]; exact L3) ?_
   rw [hzl]
   walk_at "S"
   refine ⟨Nb rfl, bw.al fun ar2 τ bw U ear2 s12 => ?_⟩
   walk_at "S"
   refine BIN_add_list (ckn bw) (s12 _ _ eo5) (by rw [List.length_map, List.length_map, List.length_append, List.length_append]; exact m2) (bw.al fun kn2 τ bw nkn2 ekn2 s13 => ?_)
   rw [← List.map_append] at ekn2
   walk_at "S"
   refine (IH (D - 1) hD (G := S.G.fun Θ2 nd (ps ++ ownL b)) (b'.mono (bd3 hD1)) trb (cL bw) he1 hd1 ok1 L1 (cpw bw) (s13 _ _ ear2) hro2 ekn2 nkn2.off (cmd bw) bw.i.bs (Nat.lt_succ_self _) (by rw [List.length_append, List.length_append, List.length_append]; exact m3) fun d1 ys1 τ1 G1 r1 hB1 ed1 ast1 => ?_).call
   walk_at "S"
   have bw1 := bw.call r1
   have il : ys1.length ≤ 1000 := by rw [ast1.len]; exact Nat.le_trans (topN_le b) (Nat.le_trans L2 (Nb rfl))
   have epb1 := bw.c _ _ npb.off npb.nf epb
   refine bw1.calE npb (r1.θ epb1 hθb) (bw1.c _ _ npb.off npb.nf epb) (fr_at.mp ed1).2 (Nat.zero_le _) il fun τ2 bw2 epb2 kk => ?_
   have end2 := kk _ _ nnp (bw1.c _ _ nnd.off nnd.nf end_)
   have epp2 := kk _ _ npq (bw1.c _ _ npp.off npp.nf epp)
   have epl2 := kk _ _ npl' (bw1.c _ _ npl.off npl.nf epl)
   have K2 : ∀ a o, M.off a → a ≠ fo → S.τ a = some o → τ2 a = some o := fun a o h1 h2 e => kk a o (hS a o e) (bw1.c a o h1 h2 (sK _ _ e))
   have nK := fun a e => bw.i.new (d := a) e
   have dB : ∀ a, τ a = none → a ≠ pb := fun a e q => by rw [q, epb1] at e; exact sn e
   have ast1 := ast1.mono (fr_mono (σ := σ1) (σ3 := τ2) (fun a e => (nK a e).n1) fun a o e1 e2 => kk a o (dB a e1) e2) (fun U U h => h) fun U U h => h
   clear kk bw1 nK dB
   walk_at "S"
   refine bw2.metF ?_
   walk_at "S"
   refine xe11 r1.f fun f1 hf1 => ?_
   refine xe11 r1.t fun tq ht1 => ?_
   have af1 : G1.fa[S.G.B.nf]? = some nd := by rw [hf1]; exact pre_get hro2
   have hff : G1.fa = S.G.fa ++ ([nd] ++ f1) := by rw [hf1, ← List.append_assoc]; rfl
   have hB : G1.B = bld (.fn d x ps sb b .nil) ro num K S.G.B := hB1
   have hk4 : ((if d = true then Str.ofString "decl" else Str.ofString "expr") == Str.ofString "decl") = d := by cases d <;> rfl
   rw [hk4]
   cases d with
   | true =>
    refine if_t ?_
    walk_at "S"
    refine bw2.calF (Nat.le_trans hX (Nb rfl)) fun τ3 bw3 => ?_
    walk_at "S"
    have cc := bw3.c
    exact k _ ⟨τ3, _, _⟩ (.ref nd) ⟨by walk_at "lk", by walk_at "lk", by walk_at "lk", by walk_at "lk", by walk_at "lk"⟩ ⟨bw3.i, ⟨fun a o h1 h2 e => cc a o h1 h2 (K2 a o h1 h2 e), ⟨_, hff⟩, ⟨tq, ht1⟩⟩,
     Ast.decl af1 (nd_of nnd (cc _ _ nnd.off nnd.nf end2) npp (cc _ _ npp.off npp.nf epp2)) (fr_at.mpr ⟨npl.n1, cc _ _ npl.off npl.nf epl2⟩) (fr_at.mpr ⟨npb.n1, cc _ _ npb.off npb.nf epb2⟩) (ast1.mono (fun a o e => fr_at.mpr ⟨(fr_at.mp e).1, cc a o (hσ1 a (fr_at.mp e).1).1 (hσ1 a (fr_at.mp e).1).2 (fr_at.mp e).2⟩) (fun U U h => h) fun U U h => h) .nil, rfl, hB⟩
   | false =>
    refine if_f ?_
    walk_at "S"
    refine ⟨Nb rfl, bw2.al fun pe τ3 bw3 npe epe s14 => ?_⟩
    walk_at "S"
    refine bw3.node hK (b'.mono bd1) fun e τ4 bw4 ne ee s15 => ?_
    walk_at "S"
    have s1415 := s14.trans s15
    refine bw4.ck.calF (Nat.le_trans hX (Nb rfl)) fun τ5 bw5 => ?_
    walk_at "S"
    have cc := bw5.c
    exact k _ ⟨τ5, _, _⟩ (.ref e) ⟨by walk_at "lk", by walk_at "lk", by walk_at "lk", by walk_at "lk", by walk_at "lk"⟩ ⟨bw5.i, ⟨fun a o h1 h2 e => cc a o h1 h2 (s1415 _ _ (K2 a o h1 h2 e)), ⟨_, hff⟩, ⟨tq, ht1⟩⟩,
     Ast.expr (nd_of ne (cc _ _ ne.off ne.nf ee) npe (cc _ _ npe.off npe.nf (s15 _ _ epe))) af1 (nd_of nnd (cc _ _ nnd.off nnd.nf (s1415 _ _ end2)) npp (cc _ _ npp.off npp.nf (s1415 _ _ epp2))) (fr_at.mpr ⟨npl.n1, cc _ _ npl.off npl.nf (s1415 _ _ epl2)⟩) (fr_at.mpr ⟨npb.n1, cc _ _ npb.off npb.nf (s1415 _ _ epb2)⟩) (ast1.mono (fun a o e => fr_at.mpr ⟨(fr_at.mp e).1, cc a o (hσ1 a (fr_at.mp e).1).1 (hσ1 a (fr_at.mp e).1).2 (s1415 _ _ (fr_at.mp e).2)⟩) (fun U U h => h) fun U U h => h) .nil, rfl, hB⟩
 ·intro ρ' S zs l a
  obtain ⟨l1, l2, l3, l4, l5⟩ := l
  refine rFL b'.h (a.i.ext _ _ op (sσ _ _ op (sub _ _ ep)).2 (sσ _ _ op (sub _ _ ep)).1) (fun v hv => by have := (Gs hv).1; exact absurd this (Nat.lt_irrefl _)) (fun U => ?_)
  walk_at "S"
  have hx : S.X = zs := a.x
  refine h fo zs S.τ S.G ⟨fun b o h1 e => a.i.ext b o h1 (sσ b o h1 e).2 (sσ b o h1 e).1, a.i.bs, a.i.θs, fun b h1 h2 => dσ b (a.i.θn b h1 h2), a.le.f, a.le.t⟩ a.b (fr_at.mpr ⟨hfo, hx ▸ a.i.ffo⟩) ?_
  exact a.ast.mono (fr_mono dσ fun U U U e => e) (fun U U h => h) fun U U h => h
end
end
section
noncomputable abbrev KP := Int ⊕ Str
noncomputable def leafD : KP → PyData
 | .inl i => .int i
 | .inr x => .str x
noncomputable def mixIs : KP → Value → Bool
 | .inl i, v => Value.isInt i v
 | .inr x, v => Value.isStrOf x v
theorem beqD {α : Type} [BEq α] [LawfulBEq α] [DecidableEq α] (a b : α) : (a == b) = decide (a = b) := by by_cases h : a = b <;> simp [h]
theorem mix_shape {k : KP} {v : Value} (h : mixIs k v = true) : (∃ i t, k = .inl i ∧ v = .int i t) ∨ ∃ x t, k = .inr x ∧ v = .str x t := by
 cases k
 ·refine xe11 (Value.isInt_shape h) fun t e => ?_; exact .inl ⟨_, t, rfl, e⟩
 ·refine xe11 (Value.isStrOf_shape h) fun t e => ?_; exact .inr ⟨_, t, rfl, e⟩
noncomputable def mixKind (prog : Program) (w : World) : KeyKind prog w KP where
 is := mixIs
 hash := fun k => match k with | .inl i => hashInt i | .inr x => hashStr w x
 inj := fun v a b ha hb => by
  rcases mix_shape ha with ⟨i, t, rfl, rfl⟩ | ⟨x, t, rfl, rfl⟩ <;> rcases mix_shape hb with ⟨j, u, rfl, e⟩ | ⟨y, u, rfl, e⟩ <;> cases e <;> rfl
 byValue := fun k v h => by
  rcases mix_shape h with ⟨i, t, rfl, rfl⟩ | ⟨x, t, rfl, rfl⟩ <;> rfl
 pyHash := fun {A E s k v Q} h q => by
  rcases mix_shape h with ⟨i, t, rfl, rfl⟩ | ⟨x, t, rfl, rfl⟩
  ·exact wpAny_pyHash_int q
  ·exact wpAny_pyHash_str q
 eqBool := fun {A E s a b u v Q} hu hv q => by
  rcases mix_shape hu with ⟨i, t, rfl, rfl⟩ | ⟨x, t, rfl, rfl⟩ <;> rcases mix_shape hv with ⟨j, u, rfl, rfl⟩ | ⟨y, u, rfl, rfl⟩
  ·exact PySem.SeqAt.EqAt.int_int _ _ _ _ _ _ _ _ (by rw [beqD]; exact (decide_eq_decide.mpr ⟨Sum.inl.inj, congrArg Sum.inl⟩ : decide ((.inl i : KP) = .inl j) = _) ▸ q)
  ·exact PySem.SeqAt.EqAt.int_str _ _ _ _ _ _ _ _ ((decide_eq_false Sum.inl_ne_inr : decide ((.inl i : KP) = .inr y) = false) ▸ q)
  ·exact PySem.SeqAt.EqAt.str_int _ _ _ _ _ _ _ _ ((decide_eq_false Sum.inr_ne_inl : decide ((.inr x : KP) = .inl j) = false) ▸ q)
  ·exact PySem.SeqAt.EqAt.str_str _ _ _ _ _ _ _ _ (by rw [beqD]; exact (decide_eq_decide.mpr ⟨Sum.inr.inj, congrArg Sum.inr⟩ : decide ((.inr x : KP) = .inr y) = _) ▸ q)
 «strs» := fun k x t v h => by
  rcases mix_shape h with ⟨i, u, rfl, e⟩ | ⟨y, u, rfl, e⟩
  ·cases e
  ·cases e; cases v <;> rfl
noncomputable abbrev KQ := Int × Str × KP
noncomputable def keyD (k : KQ) : PyData := .tuple [.int k.1, .tuple [.str k.2.1, leafD k.2.2]]
theorem keyD_dep (k : KQ) : (keyD k).depth ≤ 10 := by obtain ⟨i, x, p⟩ := k; cases p <;> simp [keyD, leafD, PyData.depth, PyData.depthAll]
theorem keyD_eqv (a b : KQ) : PyData.eqv (keyD a) (keyD b) = decide (a = b) := by
 obtain ⟨i, x, p⟩ := a
 obtain ⟨j, y, q⟩ := b
 cases p <;> cases q <;> simp [keyD, leafD, PyData.eqv, PyData.eqvAll, Prod.ext_iff, beqD, Bool.decide_and]
section
variable {prog : Program} {w : World}
noncomputable def NK (h : Heap) (k : KQ) (a : Addr) : Prop := (keyD k).canLay0 = true ∧ ∃ p t its n, h.get? a = some ⟨.type "tuple", none, .seq its n, #[]⟩ ∧ its.toList = [.int k.1 t, .ref p] ∧
 ∃ its' n' u v, h.get? p = some ⟨.type "tuple", none, .seq its' n', #[]⟩ ∧ its'.toList = [.str k.2.1 u, v] ∧ mixIs k.2.2 v = true
theorem NK.reads {h : Heap} {k : KQ} {a : Addr} (x : NK h k a) : ∃ as, Reads h (.ref a) (keyD k) as := by
 obtain ⟨ok, p, t, its, n, h1, e1, its', n', u, v, h2, e2, h3⟩ := x
 obtain ⟨i, y, q⟩ := k
 have hv : ∃ as, Reads h v (leafD q) as := by
  cases q
  ·refine xe11 (Value.isInt_shape h3) fun U eq1 => ?_; obtain rfl := eq1; exact ⟨_, .int _ _⟩
  ·refine xe11 (Value.isStrOf_shape h3) fun U eq1 => ?_; obtain rfl := eq1; exact ⟨_, .str _ _⟩
 refine xe11 hv fun as hv => ?_
 have r2 : ∃ as, ReadsAll h its'.toList [.str y, leafD q] as := by rw [e2]; exact ⟨_, .cons (.str _ _) (.cons hv .nil)⟩
 refine xe11 r2 fun as z => ?_
 have r1 : ∃ as, ReadsAll h its.toList [.int i, .tuple [.str y, leafD q]] as := by rw [e1]; exact ⟨_, .cons (.int _ _) (.cons (.tuple h2 rfl rfl z) .nil)⟩
 refine xe11 r1 fun bs z' => ?_
 exact ⟨_, .tuple h1 rfl rfl z'⟩
theorem NK.inner {h : Heap} {k : KQ} {a : Addr} (x : NK h k a) : ∃ p t its n, h.get? a = some ⟨.type "tuple", none, .seq its n, #[]⟩ ∧ its.toList = [.int k.1 t, .ref p] ∧ IsTupleKey (mixKind prog w) h [.inr k.2.1, k.2.2] p := by
 obtain ⟨ok, p, t, its, n, h1, e1, its', n', u, v, h2, e2, h3⟩ := x
 exact ⟨p, t, its, n, h1, e1, _, its', n', h2, rfl, rfl, by rw [e2]; exact .cons (by simp [mixKind, mixIs, Value.isStrOf]) (.cons h3 .nil)⟩
noncomputable def nkHash (w : World) (k : KQ) : Int := reduceHash (Builtin.Tuple.tupleHashOf [hashInt k.1, tupleKeyHash (mixKind (prog := prog) w) [.inr k.2.1, k.2.2]])
theorem NK.hash {A : Around} {E : Value → Shared → Prop} {s : Shared} {k : KQ} {a : Addr} {Q : Int → Shared → Prop} (hu : A.units + 1 < cLine) (x : NK s.heap k a) (h : Q (nkHash (prog := prog) w k) { s with toks := s.toks + 5 }) : wpAny (model prog w) A (pyHash (.ref a)) Q E s := by
 refine xe43 (x.inner (prog := prog) (w := w)) fun p t its n h1 e1 hk => ?_
 refine pyHash_slot (T := "tuple") ⟨_, h1, rfl⟩ F.slot_tuple_hash F.entry_tuple_hash (F.args_tuple_hash_1 _) (beq_builtin_none _) (.inr (by lia)) ?_
 show wpAny _ _ (Builtin.Tuple.tupleItemsOf (.ref a) >>= _) _ _ s
 refine wpAny_bind (wpAny_tupleItemsOf h1 rfl ?_)
 refine wpAny_bind ?_
 rw [← Array.forIn_toList, e1, List.forIn_cons]
 refine wpAny_bind (wpAny_bind (wpAny_pyHash_int ?_))
 refine wpAny_bind (wpAny_pure (wpAny_pure ?_))
 show wpAny _ _ (forIn [Value.ref p] _ _) _ _ _
 rw [List.forIn_cons]
 refine wpAny_bind (wpAny_bind (wpAny_pyHash_tuple (A := A.in1) (by show A.units + 1 < _; exact hu) hk ?_))
 refine wpAny_bind (wpAny_pure (wpAny_pure ?_))
 show wpAny _ _ (forIn ([] : List Value) _ _) _ _ _
 rw [List.forIn_nil]
 refine wpAny_pure ?_
 show wpAny _ _ (retInt (Builtin.Tuple.tupleHashOf _)) _ _ _
 exact wpAny_bind (wpAny_mkInt (wpAny_pure ⟨_, _, rfl, h⟩))
theorem quiet_flat {A : Around} {E : Value → Shared → Prop} {s : Shared} {a : Addr} {its : Array Value} {n d : Nat} {Q : Bool → Shared → Prop} (ho : s.heap.get? a = some ⟨.type "tuple", none, .seq its n, #[]⟩)
  (hi : ∀ v ∈ its.toList, wpAny (model prog w) A (eqIsQuiet d v) (fun b s' => b = true ∧ s' = s) (fun U U => False) s) (h : Q true s) : wpAny (model prog w) A (eqIsQuiet (d + 1) (.ref a)) Q E s := by
 have hT : s.TypeIs (.ref a) "tuple" := ⟨_, ho, rfl⟩
 unfold eqIsQuiet
 refine wpAny_bind (wpAny_specialOf hT F.slot_tuple_eq.lookup ?_)
 show wpAny _ _ (isInstance (.ref a) (.type "tuple") >>= _) _ _ s
 refine wpAny_bind (wpAny_isInstance hT isSubtype_tuple_tuple ?_)
 simp only [Bool.not_true, Bool.false_eq_true, if_false]
 refine wpAny_bind (wpAny_seqItems ho rfl ?_)
 refine wpAny_bind ?_
 show wpAny _ _ (forIn its _ _) _ _ s
 rw [← Array.forIn_toList]
 refine wpAny_forIn_list _ (fun rest r s' => r.1 = none ∧ s' = s ∧ ∀ v ∈ rest, v ∈ its.toList) _ ?_ ?_ _ _ ⟨rfl, rfl, fun U h => h⟩
 ·rintro v rest r s' ⟨hr, rfl, hall⟩
  refine wpAny_bind (wpAny_mono (hi v (hall v List.mem_cons_self)) ?_ fun U U f => f.elim)
  rintro _ _ ⟨rfl, rfl⟩
  simp only [Bool.not_true, Bool.false_eq_true, if_false]
  exact wpAny_pure ⟨rfl, rfl, fun u hu' => hall u (List.mem_cons_of_mem _ hu')⟩
 ·rintro ⟨r1, r2⟩ s' ⟨hr, rfl, _⟩
  simp only at hr
  subst hr
  exact wpAny_pure h
theorem NK.quiet {A : Around} {E : Value → Shared → Prop} {s : Shared} {k : KQ} {a : Addr} {Q : Bool → Shared → Prop} (x : NK s.heap k a) (h : Q true s) : wpAny (model prog w) A (eqIsQuiet 8 (.ref a)) Q E s := by
 obtain ⟨ok, p, t, its, n, h1, e1, its', n', u, v, h2, e2, h3⟩ := x
 have bv : ∀ (d : Nat) (v : Value), carriedByValue v = true → wpAny (model prog w) A (eqIsQuiet d v) (fun b s' => b = true ∧ s' = s) (fun U U => False) s := fun d v hv => by rw [eqIsQuiet_byValue _ hv]; exact wpAny_pure ⟨rfl, rfl⟩
 refine quiet_flat h1 ?_ h
 rw [e1]
 refine List.forall_mem_cons.mpr ⟨bv _ _ rfl, List.forall_mem_cons.mpr ⟨quiet_flat h2 ?_ ⟨rfl, rfl⟩, List.forall_mem_nil _⟩⟩
 rw [e2]
 exact List.forall_mem_cons.mpr ⟨bv _ _ rfl, List.forall_mem_cons.mpr ⟨bv _ _ ((mixKind prog w).byValue _ _ h3), List.forall_mem_nil _⟩⟩
theorem keyD_inj {a b : KQ} (ok : (keyD b).canLay0 = true) (e : keyD a = keyD b) : a = b := of_decide_eq_true (by rw [← keyD_eqv, e]; exact PySem.SeqAt.eqv_refl _ ok)
theorem units_le {u m : Nat} (h : u + 32 < cLine) (h' : m ≤ 10) : u + m < cLine := Nat.lt_of_le_of_lt (Nat.add_le_add_left (Nat.le_trans h' (Nb rfl)) u) h
noncomputable def nkKind (prog : Program) (w : World) : HeapKind prog w KQ where
 is := NK
 hash := nkHash (prog := prog) w
 draws := fun U => 5
 room := fun A => A.units + 32 < cLine
 inj := fun {h a x y} hx hy => by
  refine xe11 hx.reads fun as r1 => ?_
  refine xe11 hy.reads fun bs r2 => ?_
  exact keyD_inj hy.1 (PySem.SeqAt.Reads.unique _ _ _ _ _ hx.1 r1 r2)
 keeps := fun {h h' k a d o es ep} x ho hd hs => by
  obtain ⟨ok, p, t, its, n, h1, e1, its', n', u, v, h2, e2, h3⟩ := x
  have ne : ∀ b its n, h.get? b = some ⟨.type "tuple", none, .seq its n, #[]⟩ → b ≠ d := fun b its n e q => by subst q; obtain rfl := si (e.symm.trans ho); cases hd
  exact ⟨ok, p, t, its, n, (hs.2 _ (ne _ _ _ h1)).trans h1, e1, its', n', u, v, (hs.2 _ (ne _ _ _ h2)).trans h2, e2, h3⟩
 pyHash := fun hu hk h => NK.hash (units_le (m := 1) hu (Nb rfl)) hk h
 eqBool := fun {A E s x y a b Q} hu hx hy h => by
  refine xe11 hx.reads fun as r1 => ?_
  refine xe11 hy.reads fun bs r2 => ?_
  exact PySem.SeqAt.eqBoolOverData _ _ _ _ _ _ _ _ _ _ _ _ r1 r2 hx.1 hy.1 (units_le hu (Nat.le_trans (Nat.min_le_left ..) (keyD_dep x))) (by rw [keyD_eqv]; exact h)
 quiet := fun hk h => hk.quiet h
end
end
section
noncomputable def leafV : KP → MV
 | .inl i => .int i
 | .inr x => .str x
noncomputable def KIs (σ : Sto) (k : KQ) (a : Addr) : Prop := (keyD k).canLay0 = true ∧ ∃ p, σ a = some (.tuple [.int k.1, .ref p]) ∧ σ p = some (.tuple [.str k.2.1, leafV k.2.2])
theorem KIs.mono {σ σ' : Sto} {k : KQ} {a : Addr} (t : Tup σ σ') (h : KIs σ k a) : KIs σ' k a := by
 obtain ⟨h1, p, h2, h3⟩ := h
 exact ⟨h1, p, t _ _ h2, t _ _ h3⟩
section
variable {K : Type} [DecidableEq K]
theorem stored_len (xs : List (K × Addr × Value)) (k : K) (a : Addr) (v : Value) : (storedH xs k a v).length ≤ xs.length + 1 := by
 unfold storedH; split
 ·rw [List.length_map]; exact Nat.le_succ _
 ·rw [List.length_append]; exact Nat.le_refl _
theorem stored_mem {xs : List (K × Addr × Value)} {k : K} {a : Addr} {v : Value} {x : K × Addr × Value} (h : x ∈ storedH xs k a v) : (∃ z ∈ xs, x.1 = z.1 ∧ x.2.1 = z.2.1) ∨ x = (k, a, v) := by
 unfold storedH at h; split at h
 ·refine xe12 (List.mem_map.mp h) fun z hz eq2 => ?_; obtain rfl := eq2
  refine .inl ⟨z, hz, ?_⟩
  unfold putAt; split <;> exact ⟨rfl, rfl⟩
 ·rcases List.mem_append.mp h with h | h
  ·exact .inl ⟨x, h, rfl, rfl⟩
  ·exact .inr (List.mem_singleton.mp h)
theorem find_put (k y : K) (v : Value) : ∀ (xs : List (K × Addr × Value)), (xs.map (putAt k v)).find? (fun x => decide (x.1 = y)) = (xs.find? fun x => decide (x.1 = y)).map (putAt k v)
 | [] => rfl
 | x :: xs => by
  have e : (putAt k v x).1 = x.1 := by unfold putAt; split <;> rfl
  rw [List.map_cons, List.find?_cons, List.find?_cons, e, find_put k y v xs]
  split <;> rfl
theorem atKey_stored (xs : List (K × Addr × Value)) (k : K) (a : Addr) (v : Value) (y : K) : (atKey (storedH xs k a v) y).map (fun p => MV.of p.2) = if y = k then some (MV.of v) else (atKey xs y).map (fun p => MV.of p.2) := by
 by_cases hk : (atKey xs k).isSome = true
 ·unfold storedH
  rw [if_pos hk]
  unfold atKey at hk ⊢
  rw [find_put]
  rw [Option.isSome_map] at hk
  by_cases e : y = k
  ·subst e
   refine xe11 (Option.isSome_iff_exists.mp hk) fun z hz => ?_
   have hz1 : z.1 = y := by have := List.find?_some hz; simpa using this
   rw [if_pos rfl, hz]
   show some (MV.of (putAt y v z).2.2) = _
   unfold putAt
   rw [if_pos hz1]
  ·rw [if_neg e]
   cases q : xs.find? (fun x => decide (x.1 = y)) with
   | none => rfl
   | some z =>
    have hz1 : z.1 = y := by have := List.find?_some q; simpa using this
    show some (MV.of (putAt k v z).2.2) = some (MV.of z.2.2)
    unfold putAt
    rw [if_neg (by rw [hz1]; exact e)]
 ·unfold storedH
  rw [if_neg hk]
  unfold atKey at hk ⊢
  rw [Option.isSome_map] at hk
  rw [List.find?_append]
  by_cases e : y = k
  ·subst e
   rw [if_pos rfl]
   cases q : xs.find? (fun x => decide (x.1 = y)) with
   | none => simp
   | some z => rw [q] at hk; exact absurd rfl hk
  ·rw [if_neg e]
   cases q : xs.find? (fun x => decide (x.1 = y)) with
   | none => simp [Ne.symm e]
   | some z => rfl
end
section
variable {C : Cx} {A : Around} {σ : Sto}
theorem KIs.nk {η : Sto} {s : Shared} (g : G C σ η s) {k : KQ} {a : Addr} (h : KIs σ k a) : NK s.heap k a := by
 obtain ⟨h1, p, h2, h3⟩ := h
 refine xe22 (tuple_open g h2) fun its n ho hm => ?_
 refine xe22 (tuple_open g h3) fun its' n' ho' hm' => ?_
 refine xe23 (args2 hm) fun x y e ex ey => ?_
 refine xe23 (args2 hm') fun u v e' eu ev => ?_
 refine xe11 (MV.of_int ex) fun t eq1 => ?_; obtain rfl := eq1
 obtain rfl := MV.of_ref ey
 refine xe11 (MV.of_str eu) fun t' eq1 => ?_; obtain rfl := eq1
 refine ⟨h1, p, t, its, n, ho, e, its', n', t', v, ho', e', ?_⟩
 obtain ⟨i, z, q⟩ := k
 cases q
 ·refine xe11 (MV.of_int ev) fun U eq1 => ?_; obtain rfl := eq1; simp [mixIs, Value.isInt]
 ·refine xe11 (MV.of_str ev) fun U eq1 => ?_; obtain rfl := eq1; simp [mixIs, Value.isStrOf]
noncomputable def KD (C : Cx) (σ : Sto) (a : Addr) (m : KQ → Option MV) (n : Nat) : Prop := ∃ o es ep xs, σ a = some (.raw o) ∧ o.ExactDict ∧ o.data = .dict es ep ∧ es.toList = xs.map (entryOfKey (nkKind C.prog C.w)) ∧ (∀ x ∈ xs, KIs σ x.1 x.2.1) ∧ (xs.map (·.1)).Nodup ∧ xs.length ≤ n ∧ ∀ k, (atKey xs k).map (fun p => MV.of p.2) = m k
theorem KD.keep {σ' : Sto} {a : Addr} {m : KQ → Option MV} {n : Nat} (h : KD C σ a m n) (t : Tup σ σ') (e : ∀ o, σ a = some o → σ' a = some o) : KD C σ' a m n := by
 refine xe46 h fun o es ep xs h1 h2 h3 h4 h5 h6 => ?_
 exact ⟨o, es, ep, xs, e _ h1, h2, h3, h4, fun x hx => (h5 x hx).mono t, h6⟩
theorem KD.at_ {η : Sto} {s : Shared} (g : G C σ η s) {a : Addr} {m : KQ → Option MV} {n : Nat} (h : KD C σ a m n) : ∃ o xs, σ a = some (.raw o) ∧ s.heap.DictOfH (nkKind C.prog C.w) a xs ∧ (∀ x ∈ xs, KIs σ x.1 x.2.1) ∧ xs.length ≤ n ∧ ∀ k, (atKey xs k).map (fun p => MV.of p.2) = m k := by
 obtain ⟨o, es, ep, xs, h1, h2, h3, h4, h5, h6, h7, h8⟩ := h
 refine xe11 (g.atS h1) fun d r => ?_
 exact ⟨o, xs, h1, ⟨o, es, ep, r, h2, h3, h4, fun x hx => (h5 x hx).nk g, h6⟩, h5, h7, h8⟩
theorem METH_kget {a : Addr} {m : KQ → Option MV} {n : Nat} {Q : MV → List MV → Sto → Prop} (e : KD C σ a m n) (h : Q (.builtin "dict.get") [.ref a] σ) : METH C A (.ref a) (Str.ofString "get") σ Q := by
 intro ov pl eo η s g
 obtain rfl := MV.of_ref eo
 refine xe23 (e.at_ g) fun o xs e1 hd U => ?_
 exact getMethod_builtin hd.typeIs PySem.F.plainAttrs_dict PySem.F.slot_dict_get PySem.F.type_dict_get (fun a' e' => by cases e'; refine xe34 hd fun o es ep q1 q2 q3 U => ?_; exact ⟨_, q1, q2.2.1⟩) ⟨σ, g, h⟩
theorem CALL_kget {a k : Addr} {d : MV} {key : KQ} {m : KQ → Option MV} {n : Nat} {Q : MV → Sto → Prop} (b : Bud A 4) (hs : 1 < C.h₀.objs.size) (e : KD C σ a m n) (hk : KIs σ key k) (h : Q ((m key).getD d) σ) : CALL C A (.builtin "dict.get") [.ref a, .ref k, d] σ Q := by
 intro fv vs e1 e2 η s g
 obtain rfl := MV.of_builtin e1
 refine xe34 (args3 e2) fun x y z eq3 ex ey ez => ?_; obtain rfl := eq3
 obtain rfl := MV.of_ref ex
 obtain rfl := MV.of_ref ey
 refine xe25 (e.at_ g) fun o xs e3 hd U U hm => ?_
 have far : a ≠ sysModules := dict_far hs g e3
 refine call_meetsIn F.slot_dict_get hd.typeIs F.entry_dict_get (F.args_dict_get_3 _ _ _) (meetsH_dict_get_default (nkKind C.prog C.w) a k (by simpa using far) z) ⟨?_, key, xs, hk.nk g, hd, σ, g.tok, ?_⟩
 ·have := b.u
  show A.units + 1 + 32 < cLine
  lia
 ·rw [← hm key] at h
  cases q : atKey xs key with
  | none => rw [q] at h; rw [← ez] at h; exact h
  | some p => rw [q] at h; exact h
theorem SETI_k {a k : Addr} {v : MV} {key : KQ} {m : KQ → Option MV} {n : Nat} {Q : Sto → Prop} (b : Bud A 4) (hn : n ≤ 1000) (e : KD C σ a m n) (hk : KIs σ key k)
  (h : ∀ o', (∃ o, σ a = some (.raw o)) → KD C (σ.set a (.raw o')) a (fun x => if x = key then some v else m x) (n + 1) → Q (σ.set a (.raw o'))) : SETI C A (.ref a) (.ref k) v σ Q := by
 intro ov iv vr eo ei ev η s g
 obtain rfl := MV.of_ref eo
 obtain rfl := MV.of_ref ei
 refine xe25 (e.at_ g) fun o xs e3 hd hx hl hm => ?_
 refine wpAny_setItem_heap (k := key) (knd := nkKind C.prog C.w) ?_ (hk.nk g) hd (fun h' hd' hs' => ?_) (le_line (by lia))
 ·have := b.u
  show A.units + 1 + 32 < cLine
  lia
 refine xe36 hd' fun o' es' ep' h1 h2 h3 h4 h5 h6 => ?_
 have nt : ∀ x, σ a = some x → isTup x = false := fun x q => by obtain rfl := si (e3.symm.trans q); rfl
 have tp : Tup σ (σ.set a (.raw o')) := Tup.set nt
 refine ⟨_, g.setS (g.dj a _ e3) (s' := { s with heap := h', toks := s.toks + 5 }) (g.st.set (o' := .raw o') (add_left e3) rfl rfl hs' fun d => h1) rfl rfl, h _ ⟨o, e3⟩ ⟨o', es', ep', _, Sto.set_self .., h2, h3, h4, fun x hx' => ?_, h6, ?_, fun y => ?_⟩⟩
 ·rcases stored_mem hx' with ⟨z, hz, e1, e2⟩ | rfl
  ·rw [e1, e2]; exact (hx z hz).mono tp
  ·exact hk.mono tp
 ·exact Nat.le_trans (stored_len _ _ _ _) (Nat.succ_le_succ hl)
 ·rw [atKey_stored, hm y, ev]
end
end
section
noncomputable def SetN (o : MO) (n : Nat) : Prop := ∃ ob es ep t, o = .raw ob ∧ ob.ExactSet ∧ ob.data = .set es ep t ∧ t.fits es.size = true ∧ es.size = n ∧ n ≤ 4096
section
variable {C : Cx} {A : Around} {σ : Sto}
theorem ints_are : ∀ {vs : List Value} {xs : List Int}, vs.map MV.of = xs.map .int → IntsAre vs xs
 | [], [], _ => .nil
 | [], _ :: _, h => by cases h
 | _ :: _, [], h => by cases h
 | v :: vs, x :: xs, h => by
  rw [List.map_cons, List.map_cons, List.cons.injEq] at h
  refine xe11 (MV.of_int h.1) fun t eq1 => ?_; obtain rfl := eq1
  exact .cons _ _ (ints_are h.2)
theorem CALL_setI {a : Addr} {xs : List Int} {Q : MV → Sto → Prop} (b : A.handled = none) (e : σ a = some (.list (xs.map .int))) (hz : xs.length ≤ 4000) (h : ∀ d o, σ d = none → SetN o (firstMet (fun i => xs.getD i 0) xs.length).length → Q (.ref d) (σ.set d o)) : CALL C A (.type "set") [.ref a] σ Q := by
 intro fv vs e1 e2 η s g
 obtain rfl := MV.of_type e1
 refine xe12 (args1 e2) fun x eq1 ex => ?_; obtain rfl := eq1
 obtain rfl := MV.of_ref ex
 refine xe22 (list_open g e) fun its n ho hm => ?_
 have hsz := list_size hm
 rw [List.length_map] at hsz
 refine call_set_list b ⟨_, ho, rfl, n, rfl⟩ (ints_are hm) (by rw [hsz]; unfold scanBound; lia) fun h' tk hS hk => ?_
 obtain ⟨o, es, ep, t, h1, h2, h3, _, _, h6, h7, h8⟩ := hS
 have f := g.fresh (Nat.le_refl s.heap.objs.size)
 rw [hsz] at h8
 refine ⟨_, g.setS f.2 (s' := { s with heap := h', toks := tk }) (g.st.new (o' := .raw o) (fun b o e => hk b o (Heap.lt_size e) e) ?_ (Nat.le_refl _) rfl fun d => h1) rfl rfl, h _ _ f.1 ⟨o, es, ep, t, rfl, h2, h3, h7, h8, by rw [← h8]; exact Nat.le_of_lt h6⟩⟩
 exact Nat.le_of_lt (Heap.lt_size h1)
theorem CALL_lenS {a : Addr} {o : MO} {n : Nat} {Q : MV → Sto → Prop} (e : σ a = some o) (hs : SetN o n) (h : Q (.int n) σ) : CALL C A (.builtin "len") [.ref a] σ Q := by
 intro fv vs e1 e2 η s g
 obtain rfl := MV.of_builtin e1
 refine xe12 (args1 e2) fun x eq1 ex => ?_; obtain rfl := eq1
 obtain rfl := MV.of_ref ex
 refine xe46 hs fun ob es ep t eq4 h2 h3 h4 h5 h6 => ?_; obtain rfl := eq4
 refine xe11 (g.atS e) fun d ho => ?_
 refine call_len_set ho h2 h3 h4 (by lia) ⟨σ, g.tok, ?_⟩
 rw [h5]; exact h
end
theorem firstMet_kv (xs : List N) : (firstMet (fun i => (kv xs).getD i 0) (kv xs).length).length = (xs.foldl addN []).length := by
 have e : (List.range (kv xs).length).map (fun i => (kv xs).getD i 0) = kv xs := by
  apply List.ext_getElem
  ·simp
  ·intro i h1 h2
   rw [List.getElem_map, List.getElem_range, List.getD_eq_getElem?_getD, List.getElem?_eq_getElem h2]; rfl
 unfold firstMet
 rw [e]
 have key : ∀ (xs s : List N), ((kv xs).foldl step_dedup (kv s)).length = (xs.foldl addN s).length := by
  intro xs
  induction xs with
  | nil => intro s; unfold kv; rw [List.map_nil, List.foldl_nil, List.foldl_nil, List.length_map]
  | cons x xs ih =>
   intro s
   show (((((x.val : Nat) : Int)) :: kv xs).foldl step_dedup (kv s)).length = _
   rw [List.foldl_cons, List.foldl_cons, ← ih]
   congr 2
   unfold step_dedup addN
   have : (kv s).any (fun y => y == ((x.val : Nat) : Int)) = s.contains x := by
    rw [← kv_has, List.contains_eq_any_beq]
    congr 1; funext y
    rw [Bool.beq_comm]
   rw [this]
   split
   ·rfl
   ·unfold kv; rw [List.map_append]; rfl
 exact key xs []
noncomputable def W8 : List Str := ["d", "c", "b", "a", "length", "$", "prototype", "eval"]
structure WT (w : N → Str) : Prop where
 inj : ∀ x y, w x = w y → x = y
 args : w 4 = "arguments"
 ok : ∀ x, PyData.strOk (w x) = true
theorem wt_of {f l : List Str} (hp : (f ++ l).Perm W8) (hf : f.length = 4) : ∃ w : N → Str, WT w ∧ (f ++ [Str.ofString "arguments"]).map MV.str = ws w := by
 match f, hf with
 | [a, b, c, d], _ =>
  have nd : ([a, b, c, d] ++ l).Nodup := hp.nodup_iff.mpr (by decide +kernel)
  have mem : ∀ x ∈ [a, b, c, d], x ∈ W8 := fun x hx => hp.subset (List.mem_append_left _ hx)
  have ok8 : ∀ x ∈ W8, PyData.strOk x = true ∧ x ≠ "arguments" := by decide +kernel
  refine ⟨fun x => [a, b, c, d, Str.ofString "arguments"].getD x.val "", ⟨fun x y e => ?_, rfl, fun x => ?_⟩, rfl⟩
  ·have n5 : [a, b, c, d, Str.ofString "arguments"].Nodup := by
    rw [show [a, b, c, d, Str.ofString "arguments"] = [a, b, c, d] ++ [Str.ofString "arguments"] from rfl, List.nodup_append]
    exact ⟨(List.nodup_append.mp nd).1, by decide, fun u hu v hv q => by rw [List.mem_singleton] at hv; exact (ok8 u (mem u hu)).2 (q.trans hv)⟩
   have hx : x.val < [a, b, c, d, Str.ofString "arguments"].length := x.isLt
   have hy : y.val < [a, b, c, d, Str.ofString "arguments"].length := y.isLt
   simp only [List.getD_eq_getElem?_getD, List.getElem?_eq_getElem hx, List.getElem?_eq_getElem hy, Option.getD_some] at e
   exact Fin.ext ((List.getElem_inj n5).mp e)
  ·have hx : x.val < [a, b, c, d, Str.ofString "arguments"].length := x.isLt
   show PyData.strOk ([a, b, c, d, Str.ofString "arguments"].getD x.val "") = true
   rw [List.getD_eq_getElem?_getD, List.getElem?_eq_getElem hx, Option.getD_some]
   have hm : [a, b, c, d, Str.ofString "arguments"][x.val] ∈ [a, b, c, d] ++ [Str.ofString "arguments"] := List.getElem_mem hx
   rcases List.mem_append.mp hm with h | h
   ·exact (ok8 _ (mem _ h)).1
   ·rw [List.mem_singleton.mp h]; decide +kernel
end
section
theorem words_loop {P : Int → Loc → Prop} {R : Nat → List Str → List Str → Int → Int → Loc → Prop} (z : ∀ f l i x ρ, (f ++ l).Perm W8 → l.length = 4 → 0 ≤ i → P i ρ → R 0 f l i x ρ)
  (s : ∀ k f l i x ρ, (f ++ l).Perm W8 → l.length = 4 + (k + 1) → 0 ≤ i → P i ρ → (∀ f' l' i' x' ρ', (f' ++ l').Perm W8 → l'.length = 4 + k → 0 ≤ i' → P i' ρ' → R k f' l' i' x' ρ') → R (k + 1) f l i x ρ) :
  ∀ (k : Nat) (f l : List Str) (i x : Int) (ρ : Loc), (f ++ l).Perm W8 → l.length = 4 + k → 0 ≤ i → P i ρ → R k f l i x ρ
 | 0, f, l, i, x, ρ, h1, h2, h3, h4 => z f l i x ρ h1 h2 h3 h4
 | k + 1, f, l, i, x, ρ, h1, h2, h3, h4 => s k f l i x ρ h1 h2 h3 h4 (words_loop z s k)
theorem wl8 {f l : List Str} (hp : List.Perm (f ++ l) W8) : f.length ≤ 8 ∧ l.length ≤ 8 ∧ f.length + l.length = 8 := by
 have h : f.length + l.length = 8 := by rw [← List.length_append]; exact hp.length_eq
 exact ⟨Nat.le_trans (Nat.le_add_right _ _) (Nat.le_of_eq h), Nat.le_trans (Nat.le_add_left _ _) (Nat.le_of_eq h), h⟩
theorem wl1 {j n : Nat} (h : j < n) : min j n + (n - (j + 1)) + 1 = n := by
 rw [Nat.min_eq_left (Nat.le_of_lt h), Nat.add_right_comm, Nat.add_sub_cancel' h]
theorem wl2 {j n : Nat} (h : j < n) (h8 : n ≤ 8) : min j n + (n - (j + 1)) ≤ 1000000 := Nat.le_trans (Nat.le_of_succ_le (Nat.le_of_eq (wl1 h))) (Nat.le_trans h8 (by decide))
theorem wl3 {j n k : Nat} (h : j < n) (hl : n = 4 + (k + 1)) : min j n + (n - (j + 1)) = 4 + k := Nat.succ.inj ((wl1 h).trans hl)
section
variable {C : Cx} (hK : PK C) {A : Around} {n : Nat} {σ : Sto}
include hK
theorem words_C (b : Bud A (n + 2)) {i : Int} (hi : 0 ≤ i) {Q : MV → Sto → Prop} (h : ∀ d w σ', WT w → σ d = none → Sub σ σ' → σ' d = some (.list (ws w)) → Q (.ref d) σ') : CALLC C A (.ref 343) [.int i] σ Q := by
 refine runFn hK (f := 343) ["number"] (fun U => rfl) (fun U => rfl) rfl rfl (ar1 fun U => rfl) rfl rfl b fun X e1 e2 hK b' => ?_
 subst e1 e2
 with_reducible refine rSwap (names := [Str.ofString "found", Str.ofString "left"]) b'.h ?_ (by walk_at "=i") (by walk_at "=T") (by walk_at "=s")
 walk_at "S"
 refine ⟨Nat.zero_le _, fun fo hfo => ?_⟩
 walk_at "S"
 refine ⟨Nb rfl, fun le hle => ?_⟩
 walk_at "S"
 refine ⟨rfl, Nb rfl, ?_⟩
 have hne : fo ≠ le := (set_dom hle).2.symm
 have hle0 := (set_dom hle).1
 walk_at "S"
 refine CALL_range fun d t u v hd => ?_
 refine ITR_range (n := 4) (Nb rfl) (Sto.set_self ..) ?_
 refine RF.sub (σ' := two σ le fo ((W8).map .str) (([] : List Str).map .str)) (fun a o e => keep_new hd (by rw [← two_swap hne.symm] at e; exact e)) ?_
 refine words_loop (P := fun i ρ => LK ρ "number" (.int i) ∧ LK ρ "found" (.ref fo) ∧ LK ρ "left" (.ref le)) (R := fun k f l i x ρ => RF _ _ _ _ _ (.range x k 1) X ρ (two σ le fo (l.map .str) (f.map .str))) ?_ ?_ 4 [] W8 i _ _ (List.Perm.refl _) rfl hi ⟨rfl, rfl, rfl⟩
 ·rintro f l i x ρ hp hl hi ⟨l1, l2, l3⟩
  refine rFG b'.h (fun m hm => by cases hm) (fun U => ?_)
  walk_at "S"
  refine ⟨Nb rfl, fun ag hag => ?_⟩
  have hf : f.length = 4 := by have := (wl8 hp).2.2; lia
  have hag1 := (set_dom (set_dom hag).1).1
  refine BIN_add_list (keep_new hag two_fo) (Sto.set_self ..) (by rw [List.length_map, hf]; exact Nb rfl) fun d hd => ?_
  refine xe12 (wt_of hp hf) fun w hw e => ?_
  refine h d w _ hw (set_dom (set_dom (set_dom hd).1).1).1 (fun a o q => keep_new hd (keep_new hag (two_old hle0 hfo q))) ?_
  rw [Sto.set_self, ← e, List.map_append]; rfl
 ·rintro k f l i x ρ hp hl hi ⟨l1, l2, l3⟩ ih
  refine rFG b'.h (fun m hm => ?_) (fun hm => by cases hm)
  cases hm
  walk_at "a"
  have hwf : le ≠ fo := hne.symm
  walk_at "S"
  refine CALL_len_list (two_wa hwf) (by rw [List.length_map]; exact Nat.le_trans (wl8 hp).2.1 (by decide)) ?_
  walk_at "S"
  refine METH_append two_fo ?_
  walk_at "S"
  refine METH_pop (two_wa hwf) ?_
  walk_at "S"
  have hpos : (0 : Int) < (l.map MV.str).length := by rw [List.length_map, hl]; exact Int.natCast_pos.mpr (Nat.lt_of_lt_of_le (Nat.succ_pos _) (Nat.le_add_left _ _))
  refine BIN_mod (Int.ne_of_gt hpos) ?_
  walk_at "S"
  have h0 : 0 ≤ i.fmod (l.map MV.str).length := by rw [fm (Int.le_of_lt hpos)]; exact Int.emod_nonneg _ (Int.ne_of_gt hpos)
  have h1 := Int.fmod_lt_of_pos i hpos
  refine xe11 (Int.eq_ofNat_of_zero_le h0) fun j hj => ?_
  have hjl : j < l.length := by rw [hj, List.length_map] at h1; exact Int.ofNat_lt.mp h1
  have hsp : l = l.take j ++ l[j] :: l.drop (j + 1) := by rw [← List.drop_eq_getElem_cons hjl, List.take_append_drop]
  have el : two σ le fo (l.map .str) (f.map .str) le = some (.list ((l.take j).map .str ++ .str l[j] :: (l.drop (j + 1)).map .str)) := by
   rw [two_wa hwf]; conv => lhs; rw [hsp]
   rw [List.map_append]; rfl
  have hl8 := (wl8 hp).2.1
  refine CALL_popAt el (by rw [hj, List.length_map, List.length_take, Nat.min_eq_left (Nat.le_of_lt hjl)]) (by rw [List.length_map, List.length_map, List.length_take, List.length_drop]; exact wl2 hjl hl8) ?_
  rw [two_set_wa hwf, ← List.map_append]
  walk_at "S"
  have hf4 := (wl8 hp).1
  refine CALL_append two_fo (by rw [List.length_map]; exact Nat.le_trans hf4 (Nb rfl)) ?_
  rw [two_set_fo, show f.map MV.str ++ [.str l[j]] = (f ++ [l[j]]).map .str by rw [List.map_append]; rfl]
  walk_at "S"
  refine BIN_div hpos (by rw [List.length_map]; lia) ?_
  walk_at "S"
  refine ih (f ++ [l[j]]) (l.take j ++ l.drop (j + 1)) _ _ _ ?_ ?_ (Int.fdiv_nonneg hi (Int.le_of_lt hpos)) ⟨by walk_at "lk", by walk_at "lk", by walk_at "lk"⟩
  ·refine List.Perm.trans ?_ hp
   conv => rhs; rw [hsp]
   rw [List.append_assoc]
   refine List.Perm.append_left f ?_
   exact (List.perm_middle (a := l[j]) (l₁ := l.take j) (l₂ := l.drop (j + 1))).symm
  ·rw [List.length_append, List.length_take, List.length_drop]; exact wl3 hjl hl
end
end
section
noncomputable def capD (p : Bool × Nat) : PyData := .tuple [.bool p.1, .int p.2]
noncomputable def plD : Option (Bool × Nat) → PyData
 | none => .none
 | some (c, i) => .tuple [.str (plStr c), .int i]
noncomputable def selfPl (S : AS) (k : Nat) : Option (Bool × Nat) := match (S.sc k).sf with
 | none => none
 | some _ => S.pl (.self k)
noncomputable def argPl (S : AS) (k : Nat) : Option (Bool × Nat) := if (S.sc k).ua then S.pl (.own k 4) else none
noncomputable def countsD (S : AS) (k : Nat) : PyData := .list [.int (S.sc k).loc, .int (S.sc k).cel, .list ((S.sc k).caps.map capD), .list ((S.sc k).pps.map plD), plD (selfPl S k), plD (argPl S k), .bool (S.sc k).ua]
theorem PV.rd {σ : Sto} {p : Option (Bool × Nat)} {v : MV} (h : PV σ p v) : RD σ v (plD p) := by
 cases p with
 | none => obtain rfl : v = .none := h; exact .none
 | some q => obtain ⟨c, i⟩ := q; refine xe12 h fun t eq1 e => ?_; obtain rfl := eq1; exact .tuple e (.cons (.str _) (.cons (.int _) .nil))
theorem CV.rd {σ : Sto} {p : Bool × Nat} {v : MV} (h : CV σ p v) : RD σ v (capD p) := by
 refine xe12 h fun t eq1 e => ?_; obtain rfl := eq1; exact .tuple e (.cons (.bool _) (.cons (.int _) .nil))
theorem F2.rds {α : Type} {σ : Sto} {R : α → MV → Prop} {f : α → PyData} (hf : ∀ x v, R x v → RD σ v (f x)) : ∀ {l : List α} {xs : List MV}, F2 R l xs → RDs σ xs (l.map f)
 | [], xs, h => by rw [h.nil_of]; exact .nil
 | x :: l, xs, h => by
  refine xe23 h.left fun v ys eq2 r t => ?_; obtain rfl := eq2
  exact .cons (hf _ _ r) (F2.rds hf t)
theorem GET_list {C : Cx} (hK : PK C) {A : Around} {σ Λ : Sto} {w : N → Str} {D : List (Addr × Role)} {μ : Map} {S : AS} {a : Addr} {k : Nat} (rep : Rep w Λ D μ S σ) (hk : μ (.sc k) = some a) {x : Str} {r : Role} (hx : x ∈ scopeA) (hg : ∀ fs, GSc μ k (S.sc k).ch (S.sc k).sf (S.sc k).strict (S.sc k).ua (S.sc k).loc (S.sc k).cel fs → ∃ a, LK fs x (.ref a) ∧ μ r = some a) {Q : MV → Sto → Prop}
  (h : ∀ b o, μ r = some b → σ b = some o → Good w μ S σ r o → Q (.ref b) σ) : GET C A (.ref a) x σ Q :=
 GET_self hK rep hk hx (P := fun v => ∃ b, v = .ref b ∧ μ r = some b) (fun fs g => by refine xe12 (hg fs g) fun a e q => ?_; exact ⟨_, e, a, rfl, q⟩) fun v ⟨b, e, q⟩ => by
  subst e
  refine xe12 (rep.at_ _ _ q) fun o e1 e2 => ?_
  exact h b o q e1 e2
noncomputable def isSeq : MO → Bool
 | .list _ => true
 | .tuple _ => true
 | _ => false
noncomputable def Seqs (σ σ' : Sto) : Prop := ∀ a o, isSeq o = true → σ a = some o → σ' a = some o
theorem Sub.seqs {σ σ' : Sto} (s : Sub σ σ') : Seqs σ σ' := fun a o U e => s a o e
theorem RDs_sq {σ σ' : Sto} (s : Seqs σ σ') {v : List MV} {d : List PyData} : RDs σ v d → RDs σ' v d := RDs.mono (fun U U => s _ _ rfl) fun U U => s _ _ rfl
theorem RD_sq {σ σ' : Sto} (s : Seqs σ σ') : (∀ {v : MV} {d : PyData}, RD σ v d → RD σ' v d) ∧ (∀ {v : List MV} {d : List PyData}, RDs σ v d → RDs σ' v d) := ⟨RDs_sq s, RDs_sq s⟩
theorem RD_up {σ σ' : Sto} (s : Sub σ σ') : (∀ {v : MV} {d : PyData}, RD σ v d → RD σ' v d) ∧ (∀ {v : List MV} {d : List PyData}, RDs σ v d → RDs σ' v d) := RD_sq s.seqs
theorem cut_tup {σ : Sto} {b c : Addr} {lb lc : List MV} (eb : σ b = some (.list lb)) (ec : σ c = some (.list lc)) : Tup σ (cut σ b c) := fun t xs e =>
 cut_at (fun q => by rw [q, eb] at e; cases e) (fun q => by rw [q, ec] at e; cases e) e
section
variable {C : Cx} (hK : PK C) {A : Around} {n : Nat} {σ Λ : Sto} {w : N → Str} {D : List (Addr × Role)} {μ : Map} {S : AS}
include hK
theorem counts_C (bd : Bud A (n + 4)) (h4 : w 4 = "arguments") (rep : Rep w Λ D μ S σ) {a : Addr} {k : Nat} (ha : μ (.sc k) = some a) (hin : (S.sc k).ua = true → (4 : N) ∈ (S.sc k).own) {b c : Addr} {lb lc : List MV} (ob : Off μ b) (oc : Off μ c) (eb : σ b = some (.list lb)) (ec : σ c = some (.list lc)) {Q : MV → Sto → Prop} (h : ∀ d σ', Sub σ σ' → RD (cut σ' b c) (.ref d) (countsD S k) → Q (.ref d) σ') : CALLC C A (.ref 350) [.ref a] σ Q := by
 refine runFn hK (f := 350) ["scope"] (fun U => rfl) (fun U => rfl) rfl rfl (ar1 fun U => rfl) rfl rfl bd fun X e1 e2 hK b' => ?_
 subst e1 e2
 have tc := cut_tup eb ec
 walk_at "S"
 refine GET_self hK rep ha (P := fun v => v = .int (S.sc k).loc) (by decide) (fun fs g => ⟨_, g.loc, rfl⟩) fun v e => ?_
 subst e
 walk_at "S"
 refine GET_self hK rep ha (P := fun v => v = .int (S.sc k).cel) (by decide) (fun fs g => ⟨_, g.cel, rfl⟩) fun v e => ?_
 subst e
 walk_at "S"
 refine GET_list hK rep ha (r := .caps k) (by decide) (fun fs g => g.caps) fun cb o mcb ecb gc => ?_
 refine xe12 gc fun cs eq1 hcs => ?_; obtain rfl := eq1
 walk_at "S"
 refine GET_list hK rep ha (r := .pps k) (by decide) (fun fs g => g.pps) fun pb o mpb ep gp => ?_
 refine xe12 gp fun ps eq1 hps => ?_; obtain rfl := eq1
 walk_at "S"
 refine GET_selfp hK (n := n) (b'.mono (by lia)) rep ha fun u hu => ?_
 have hu : RD (cut σ b c) u (plD (selfPl S k)) := PV.rd (hu.mono tc)
 walk_at "S"
 refine GET_argp hK (n := n) (b'.mono (by lia)) rep h4 ha hin fun z hz => ?_
 have hz : RD (cut σ b c) z (plD (argPl S k)) := PV.rd (hz.mono tc)
 walk_at "S"
 refine GET_self hK rep ha (P := fun v => v = .bool (S.sc k).ua) (by decide) (fun fs g => ⟨_, g.ua, rfl⟩) fun v e => ?_
 subst e
 walk_at "S"
 refine ⟨Nb rfl, fun d hd => ?_⟩
 have s := Sub.new (o := .list [.int (S.sc k).loc, .int (S.sc k).cel, .ref cb, .ref pb, u, z, .bool (S.sc k).ua]) hd
 have sc := cut_mono (bx := b) (cs := c) s
 have kd : ∀ {x : Addr} {l : List MV}, σ x = some (.list l) → d ≠ x := fun e q => by rw [q, e] at hd; exact sn hd
 have at_ : ∀ {x : Addr} {o : MO} {r : Role}, μ r = some x → σ x = some o → cut (σ.set d _) b c x = some o := fun m e => sc _ _ (cut_at (fun q => ob _ (q ▸ m)) (fun q => oc _ (q ▸ m)) e)
 refine h d _ s (.list (cut_at (kd eb) (kd ec) (Sto.set_self ..)) (.cons (.int _) (.cons (.int _) (.cons (.list (at_ mcb ecb) ((RD_up sc).2 (F2.rds (f := capD) (fun U U h => CV.rd (h.mono tc)) hcs))) (.cons (.list (at_ mpb ep) ((RD_up sc).2 (F2.rds (f := plD) (fun U U h => PV.rd (h.mono tc)) hps))) (.cons ((RD_up sc).1 hu) (.cons ((RD_up sc).1 hz) (.cons (.bool _) .nil))))))))
end
end
section
noncomputable def chR (S : AS) : Role → List VE
 | .sc k => .sc k (S.sc k).own (S.sc k).sf :: (S.sc k).ch
 | .ct c => .ct c (S.ct c).nm :: (S.ct c).ch
 | _ => []
noncomputable def isView : Role → Bool
 | .sc _ => true
 | .ct _ => true
 | _ => false
noncomputable def prK (w : N → Str) : PR → Str × KP
 | .glob x => ("global", .inr (w x))
 | .own c i => (plStr c, .inl i)
 | .up i => ("up", .inl i)
 | .no => ("", .inl 0)
noncomputable def prD (w : N → Str) (p : PR) : PyData := .tuple [.str (prK w p).1, leafD (prK w p).2]
noncomputable def isGlob : PR → Bool
 | .glob _ => true
 | _ => false
noncomputable def isNo : PR → Bool
 | .no => true
 | _ => false
theorem PRV.at_ {w : N → Str} {σ : Sto} {p : PR} {v : MV} (h : PRV w σ p v) (hn : isNo p = false) : ∃ t, v = .ref t ∧ σ t = some (.tuple [.str (prK w p).1, leafV (prK w p).2]) := by
 cases p <;> first | exact h | exact tf hn
theorem leaf_rd (σ : Sto) (p : KP) : RD σ (leafV p) (leafD p) := by cases p <;> first | exact .int _ | exact .str _
theorem pr_ok {w : N → Str} (hw : WT w) (p : PR) : PyData.strOk (prK w p).1 = true ∧ (leafD (prK w p).2).canLay0 = true := by
 have k (s : Str) (h : PyData.strOk s = true) : PyData.strOk s = true := h
 cases p with
 | glob x => exact ⟨k "global" (by decide +kernel), by simp only [prK, leafD, PyData.canLay0]; exact hw.ok x⟩
 | own c i =>
  cases c
  ·exact ⟨k "local" (by decide +kernel), by simp [prK, leafD, PyData.canLay0]⟩
  ·exact ⟨k "cell" (by decide +kernel), by simp [prK, leafD, PyData.canLay0]⟩
 | up i => exact ⟨k "up" (by decide +kernel), by simp [prK, leafD, PyData.canLay0]⟩
 | no => exact ⟨k "" (by decide +kernel), by simp [prK, leafD, PyData.canLay0]⟩
theorem pr_lay {w : N → Str} (hw : WT w) (p : PR) : (prD w p).canLay0 = true := by
 refine xe02 (pr_ok hw p) fun h1 h2 => ?_
 simp only [prD, PyData.canLay0, PyData.canLayAll0, h1, h2]; rfl
theorem key_lay {w : N → Str} (hw : WT w) (i : Int) (p : PR) : (keyD (i, prK w p)).canLay0 = true := by
 refine xe02 (pr_ok hw p) fun h1 h2 => ?_
 simp only [keyD, PyData.canLay0, PyData.canLayAll0, h1, h2]; rfl
theorem glob_eqv (w : N → Str) (S : AS) (ch : List VE) (x : N) : PyData.eqv (prD w (placeV S ch x)) (.tuple [.str "global", .str (w x)]) = isGlob (placeV S ch x) := by
 unfold placeV
 have n1 : ∀ (s : Str) (i : Int) (y : Str), PyData.eqv (.tuple [.str s, .int i]) (.tuple [.str "global", .str y]) = false := fun s i y => by simp [PyData.eqv, PyData.eqvAll]
 split
 ·simp [prD, prK, leafD, PyData.eqv, PyData.eqvAll, isGlob]
 ·split
  ·exact n1 _ _ _
  ·exact n1 _ _ _
 ·split
  ·exact n1 _ _ _
  ·exact n1 _ _ _
section
variable {C : Cx} {σ : Sto}
theorem rDict0K {E : EF} {X : FX} {ρ : Loc} {κ : KV} {pos : Pos} (h : ∀ d o, σ d = none → KD X.C (σ.set d (.raw o)) d (fun U => none) 0 → κ X ρ (.ref d) (σ.set d (.raw o))) : RE E (.Dict [] [] pos) κ X ρ σ := fun ok η s g => by
 rw [eval_Dict_empty]
 refine wpAny_bind (wpAny_standAt ?_)
 unfold newDict
 refine wpAny_newObj_type ?_
 have f := g.fresh (Nat.le_refl s.heap.objs.size)
 exact ⟨_, g.setS f.2 (s' := { s with heap := s.heap.push { cls := .type "dict", data := .dict #[] } }) (g.st.new (o' := .raw { cls := .type "dict", data := .dict #[] }) (fun b o e => Heap.get?_push_of_some _ e) (by show _ ≤ _; rw [Heap.size_push]; exact Nat.le_succ _) (Nat.le_refl _) rfl fun d => Heap.get?_push_size _ rfl) rfl rfl,
  h _ _ f.1 ⟨_, #[], 0, [], Sto.set_self .., ⟨rfl, rfl, rfl⟩, rfl, rfl, fun x hx => by simp at hx, List.nodup_nil, Nat.le_refl _, fun k => rfl⟩⟩
variable (hK : PK C) {A : Around} {n : Nat} {Λ : Sto} {w : N → Str} {D : List (Addr × Role)} {μ : Map} {S : AS}
include hK
theorem GET_nscope (rep : Rep w Λ D μ S σ) {na : Addr} {r : Role} (hm : (na, r) ∈ D) {Q : MV → Sto → Prop} (h : ∀ v, RV μ r v → Q v σ) : GET C A (.ref na) "scope" σ Q := by
 obtain ⟨_, fs, v, e, l, hv⟩ := rep.nod _ hm
 exact GET_own e l (OA_node hK (by decide)) (h v hv)
theorem METH_find (hw : WT w) (rep : Rep w Λ D μ S σ) {r : Role} {v : MV} (hr : isView r = true) (hv : RV μ r v) (ok : ChOk S (chR S r)) (hl : (chR S r).length ≤ 100) {P : MV → List MV → Sto → Prop}
  (h : ∀ f, callee C.K f = true → (∀ {A : Around} {n : Nat} {x : N} {Q : MV → Sto → Prop}, Bud A (n + 4) → (∀ u σ', Sub σ σ' → PRV w σ' (placeV S (chR S r) x) u → Q u σ') → CALL C A f [v, .str (w x)] σ Q) → P f [v] σ) : METH C A v "find" σ P := by
 refine xe12 hv fun a ha eq2 => ?_; obtain rfl := eq2
 cases r with
 | sc k => exact METH_scope hK rep ha (f := 158) (by decide) (by decide) (h _ (by rw [hK]; with_unfolding_all rfl) fun b k => (find_S hK hw.inj b rep ok hl ⟨a, ha, rfl⟩ k).call)
 | ct c => exact METH_ct hK rep ha (f := 223) (by decide) (by decide) (h _ (by rw [hK]; with_unfolding_all rfl) fun b k => (find_K hK hw.inj b rep ok hl ⟨a, ha, rfl⟩ k).call)
 | _ => exact ft hr
theorem METH_const (hw : WT w) (rep : Rep w Λ D μ S σ) {r : Role} {v : MV} (hr : isView r = true) (hv : RV μ r v) (ok : ChOk S (chR S r)) (hl : (chR S r).length ≤ 100) {P : MV → List MV → Sto → Prop}
  (h : ∀ f, callee C.K f = true → (∀ {A : Around} {n : Nat} {x : N} {Q : MV → Sto → Prop}, Bud A (n + 3) → (∀ σ', Sub σ σ' → Q (.bool (constV (chR S r) x)) σ') → CALL C A f [v, .str (w x)] σ Q) → P f [v] σ) : METH C A v "is_constant" σ P := by
 refine xe12 hv fun a ha eq2 => ?_; obtain rfl := eq2
 cases r with
 | sc k => exact METH_scope hK rep ha (f := 165) (by decide) (by decide) (h _ (by rw [hK]; with_unfolding_all rfl) fun b k => (const_S hK hw.inj b rep ok hl ⟨a, ha, rfl⟩ k).call)
 | ct c => exact METH_ct hK rep ha (f := 230) (by decide) (by decide) (h _ (by rw [hK]; with_unfolding_all rfl) fun b k => (const_K hK hw.inj b rep ok hl ⟨a, ha, rfl⟩ k).call)
 | _ => exact ft hr
end
end
section
theorem mem_addN {xs : List N} {x y : N} : y ∈ addN xs x ↔ y ∈ xs ∨ y = x := by
 unfold addN
 split
 ·rename_i h
  have hx : x ∈ xs := List.contains_iff_mem.mp h
  exact ⟨.inl, fun h => h.elim id fun e => e ▸ hx⟩
 ·rw [List.mem_append, List.mem_singleton]
theorem nodup_addN {xs : List N} {x : N} (h : xs.Nodup) : (addN xs x).Nodup := by
 unfold addN
 split
 ·exact h
 ·rename_i hx
  have hx : x ∉ xs := fun q => hx (List.contains_iff_mem.mpr q)
  exact List.nodup_append.mpr ⟨h, List.nodup_cons.mpr ⟨List.not_mem_nil, List.nodup_nil⟩, fun a ha b hb e => hx (by rw [← List.mem_singleton.mp hb, ← e]; exact ha)⟩
theorem mem_foldN : ∀ {l xs : List N} {y : N}, y ∈ l.foldl addN xs ↔ y ∈ xs ∨ y ∈ l := by
 intro l
 induction l with
 | nil => exact fun {xs y} => ⟨.inl, fun h => h.elim id fun h => absurd h List.not_mem_nil⟩
 | cons x l ih => intro xs y; rw [List.foldl_cons, ih, mem_addN, List.mem_cons, or_assoc]
theorem nodup_foldN {l : List N} : ∀ {xs : List N}, xs.Nodup → (l.foldl addN xs).Nodup := by
 induction l with
 | nil => exact id
 | cons x l ih => exact fun h => ih (nodup_addN h)
theorem mem_none {y : N} {l : List (Option N)} : some y ∈ (none :: l) ↔ some y ∈ l := ⟨fun h => (List.mem_cons.mp h).elim (fun e => none_ne e.symm) id, .tail _⟩
theorem mem_some {x y : N} {l : List (Option N)} : some y ∈ (some x :: l) ↔ y = x ∨ some y ∈ l := ⟨fun h => (List.mem_cons.mp h).imp Option.some.inj id, fun h => h.elim (fun e => e ▸ .head _) (.tail _)⟩
theorem mem_foldO : ∀ {l : List (Option N)} {xs : List N} {y : N}, y ∈ l.foldl addO xs ↔ y ∈ xs ∨ some y ∈ l := by
 intro l
 induction l with
 | nil => exact fun {xs y} => ⟨.inl, fun h => h.elim id fun h => absurd h List.not_mem_nil⟩
 | cons o l ih =>
  intro xs y
  rw [List.foldl_cons, ih]
  cases o with
  | none => rw [mem_none]; exact Iff.rfl
  | some x => rw [mem_some, ← or_assoc, ← mem_addN]; exact Iff.rfl
theorem vs4 {t : T} : ∀ {b : Bool}, okT b t → some 4 ∉ vsN t := by
 induction t with
 | nil => exact fun U => List.not_mem_nil
 | use _ r ih => exact fun h q => ih (b := _) h (mem_none.mp (mem_none.mp q))
 | var x _ r ih => exact fun h q => (mem_some.mp q).elim (fun e => h.1 e.symm) fun q => ih h.2 (mem_none.mp q)
 | tr _ i o r i1 i2 i3 => exact fun h q => (List.mem_append.mp (mem_none.mp q)).elim (fun q => (List.mem_append.mp q).elim (i1 h.2.1) (i2 h.2.2.1)) (i3 h.2.2.2)
 | fn d _ _ _ _ r _ ih =>
  intro b h q
  cases d with
  | true => exact ih h.2.2.2.2.2 (mem_none.mp q)
  | false => exact ih h.2.2.2.2.2 (mem_none.mp (mem_none.mp q))
theorem ds4 {t : T} : ∀ {b : Bool}, okT b t → some 4 ∉ dsN t := by
 induction t with
 | nil => exact fun U => List.not_mem_nil
 | use _ r ih => exact fun h q => ih (b := _) h (mem_none.mp q)
 | var x _ r ih => exact fun h q => ih h.2 (mem_none.mp q)
 | tr _ i o r _ _ ih => exact fun h q => ih h.2.2.2 (mem_none.mp q)
 | fn d _ _ _ _ r _ ih =>
  intro b h q
  cases d with
  | true => exact (mem_some.mp q).elim (fun e => h.1 e.symm) (ih h.2.2.2.2.2)
  | false => exact ih h.2.2.2.2.2 (mem_none.mp q)
theorem dsF {t : T} {y : N} : okT false t → some y ∉ dsN t := by
 induction t with
 | nil => exact fun U => List.not_mem_nil
 | use _ r ih => exact fun h q => ih h (mem_none.mp q)
 | var x _ r ih => exact fun h q => ih h.2 (mem_none.mp q)
 | tr _ i o r _ _ ih => exact fun h q => ih h.2.2.2 (mem_none.mp q)
 | fn d _ _ _ _ r _ ih =>
  intro h q
  cases d with
  | true => exact Bool.noConfusion (h.2.2.2.1 rfl)
  | false => exact ih h.2.2.2.2.2 (mem_none.mp q)
theorem mem_own4 {x y : N} : y ∈ own4 x ↔ y = 4 ∧ 4 = x := by
 unfold own4
 split
 ·rename_i h; rw [h, List.mem_singleton]; exact (and_iff_left rfl).symm
 ·rename_i h; exact ⟨fun q => absurd q List.not_mem_nil, fun q => absurd q.2.symm h⟩
theorem pr1 {A X V D M : Prop} : (A ∧ X) ∨ (V ∨ D ∨ (A ∧ M)) ↔ V ∨ D ∨ (A ∧ (X ∨ M)) :=
 ⟨fun h => h.elim (fun a => .inr (.inr ⟨a.1, .inl a.2⟩)) fun h => h.imp id fun h => h.imp id fun a => ⟨a.1, .inr a.2⟩, fun h => h.elim (fun v => .inr (.inl v)) fun h => h.elim (fun d => .inr (.inr (.inl d))) fun a => a.2.elim (fun x => .inl ⟨a.1, x⟩) fun m => .inr (.inr (.inr ⟨a.1, m⟩))⟩
theorem pr2 {V V' D D' P Q : Prop} (h : ¬D) : (V ∨ D ∨ P) ∨ (V' ∨ D' ∨ Q) ↔ (V ∨ V') ∨ D' ∨ (P ∨ Q) :=
 ⟨fun q => q.elim (fun q => q.elim (fun v => .inl (.inl v)) fun q => q.elim (fun d => absurd d h) fun p => .inr (.inr (.inl p))) fun q => q.elim (fun v => .inl (.inr v)) fun q => .inr (q.imp id .inr), fun q => q.elim (fun q => q.elim (fun v => .inl (.inl v)) fun v => .inr (.inl v)) fun q => q.elim (fun d => .inr (.inr (.inl d))) fun q => q.elim (fun p => .inl (.inr (.inr p))) fun q => .inr (.inr (.inr q))⟩
theorem pr3 {V V' D P Q : Prop} : (V ∨ P) ∨ (V' ∨ D ∨ Q) ↔ (V ∨ V') ∨ D ∨ (P ∨ Q) :=
 ⟨fun q => q.elim (fun q => q.imp .inl fun p => .inr (.inl p)) fun q => q.elim (fun v => .inl (.inr v)) fun q => .inr (q.imp id .inr), fun q => q.elim (fun q => q.imp .inl .inl) fun q => q.elim (fun d => .inr (.inr (.inl d))) fun q => q.elim (fun p => .inl (.inr p)) fun q => .inr (.inr (.inr q))⟩
theorem own_mem {t : T} {y : N} : ∀ {b : Bool}, okT b t → (y ∈ ownL t ↔ some y ∈ vsN t ∨ some y ∈ dsN t ∨ (y = 4 ∧ some 4 ∈ nsN t)) := by
 induction t with
 | nil => exact fun U => ⟨fun h => absurd h List.not_mem_nil, fun h => h.elim (fun h => absurd h List.not_mem_nil) fun h => h.elim (fun h => absurd h List.not_mem_nil) fun h => absurd h.2 List.not_mem_nil⟩
 | use x r ih =>
  intro b h
  rw [ownLE.2.1, vsNE.2.1, dsNE.2.1, nsNE.2.1, List.mem_append, mem_own4, ih (b := b) h, mem_none, mem_none, mem_none, mem_none, mem_some]
  exact pr1
 | var x z r ih =>
  intro b h
  rw [ownLE.2.2.1, vsNE.2.2.1, dsNE.2.2.1, nsNE.2.2.1, List.cons_append, List.mem_cons, List.mem_append, mem_own4, ih (b := b) h.2, mem_some, mem_none, mem_none, mem_none, mem_some, or_assoc, pr1]
 | tr _ i o r i1 i2 i3 =>
  intro b h
  rw [ownLE.2.2.2.1, vsNE.2.2.2.1, dsNE.2.2.2.1, nsNE.2.2.2.1, List.cons_append, List.cons_append, List.mem_append, List.mem_append, i1 h.2.1, i2 h.2.2.1, i3 h.2.2.2, mem_none, mem_none, mem_none, List.mem_append, List.mem_append, List.mem_append, List.mem_append, pr2 (dsF h.2.1), or_iff_right (dsF h.2.2.1), ← and_or_left, pr3, ← and_or_left]
 | fn d x _ _ _ r _ ih =>
  intro b h
  cases d with
  | true =>
   show y ∈ [x] ++ ownL r ↔ some y ∈ none :: vsN r ∨ some y ∈ some x :: dsN r ∨ (y = 4 ∧ some 4 ∈ none :: nsN r)
   rw [List.mem_append, List.mem_singleton, ih h.2.2.2.2.2, mem_none, mem_some, mem_none, or_left_comm, or_assoc]
  | false =>
   show y ∈ [] ++ ownL r ↔ some y ∈ none :: none :: vsN r ∨ some y ∈ none :: dsN r ∨ (y = 4 ∧ some 4 ∈ none :: none :: nsN r)
   rw [List.nil_append, ih h.2.2.2.2.2, mem_none, mem_none, mem_none, mem_none, mem_none]
theorem need_iff {ps : List N} {b : T} {q : Bool} (h : okT q b) (h4 : (4 : N) ∉ ps) : needN ps b = true ↔ some 4 ∈ nsN b := by
 have e1 : ps.contains 4 = false := by rw [Bool.eq_false_iff]; exact fun e => h4 (List.contains_iff_mem.mp e)
 have e2 : ((dsN b).filterMap id).contains 4 = false := by
  rw [Bool.eq_false_iff]; intro e
  refine xe12 (List.mem_filterMap.mp (List.contains_iff_mem.mp e)) fun z hz hz2 => ?_
  exact ds4 h (by rw [← show z = some 4 from hz2]; exact hz)
 have e3 : ((vsN b).foldl addO []).contains 4 = false := by
  rw [Bool.eq_false_iff]; intro e
  exact vs4 h ((mem_foldO.mp (List.contains_iff_mem.mp e)).elim (fun h => absurd h List.not_mem_nil) id)
 unfold needN
 rw [e1, e2, e3, Bool.or_false, Bool.or_false, Bool.not_false, Bool.true_and, List.any_eq_true]
 exact ⟨fun ⟨z, hz, e⟩ => by rw [← beq_iff_eq.mp e]; exact hz, fun h => ⟨_, h, beq_self_eq_true _⟩⟩
theorem pr4 {P D F V : Prop} {A : Prop} : ((P ∨ D) ∨ A ∧ F) ∨ V ↔ P ∨ V ∨ D ∨ A ∧ F :=
 ⟨fun h => h.elim (fun h => h.elim (fun h => h.imp id fun d => .inr (.inl d)) fun n => .inr (.inr (.inr n))) fun v => .inr (.inl v), fun h => h.elim (fun p => .inl (.inl (.inl p))) fun h => h.elim .inr fun h => h.elim (fun d => .inl (.inl (.inr d))) fun n => .inl (.inr n)⟩
theorem bind_mem {ps : List N} {b : T} {q : Bool} {y : N} (h : okT q b) (h4 : (4 : N) ∉ ps) : y ∈ bindN ps b ↔ y ∈ ps ++ ownL b := by
 have hd : y ∈ (dsN b).filterMap id ↔ some y ∈ dsN b := by
  rw [List.mem_filterMap]; exact ⟨fun ⟨z, hz, e⟩ => by rw [← show z = some y from e]; exact hz, fun h => ⟨_, h, rfl⟩⟩
 have h5 : y ∈ ((dsN b).filterMap id).foldl addN (ps.foldl addN []) ↔ y ∈ ps ∨ some y ∈ dsN b := by
  rw [mem_foldN, mem_foldN, hd, or_iff_right List.not_mem_nil]
 have h6 : y ∈ (if needN ps b = true then addN (((dsN b).filterMap id).foldl addN (ps.foldl addN [])) 4 else ((dsN b).filterMap id).foldl addN (ps.foldl addN [])) ↔ (y ∈ ps ∨ some y ∈ dsN b) ∨ (y = 4 ∧ some 4 ∈ nsN b) := by
  split
  ·rename_i hn; rw [mem_addN, h5, and_iff_left ((need_iff h h4).mp hn)]
  ·rename_i hn; rw [h5]; exact (or_iff_left fun e => hn ((need_iff h h4).mpr e.2)).symm
 unfold bindN
 rw [mem_foldN, mem_foldO, or_iff_right List.not_mem_nil, List.mem_append, own_mem h, h6]
 exact pr4
theorem bind_nodup {ps : List N} {b : T} : (bindN ps b).Nodup := by
 unfold bindN
 refine nodup_foldN ?_
 split
 ·exact nodup_addN (nodup_foldN (nodup_foldN List.nodup_nil))
 ·exact nodup_foldN (nodup_foldN List.nodup_nil)
theorem bind_len {ps : List N} {b : T} {q : Bool} (h : okT q b) (h4 : (4 : N) ∉ ps) : (bindN ps b).length = ((ps ++ ownL b).foldl addN []).length := by
 refine ((List.perm_ext_iff_of_nodup bind_nodup (nodup_foldN List.nodup_nil)).mpr fun y => ?_).length_eq
 rw [bind_mem h h4, mem_foldN]
 exact (or_iff_right List.not_mem_nil).symm
end
section
structure ScOk (s : Sc) : Prop where
 nd : s.own.Nodup
 sf : ∀ x, s.sf = some x → x ∉ s.own
 ps : ∀ x ∈ s.ps, x ∈ s.own
 psl : s.ps.length ≤ 10
 z : s.pps = [] ∧ s.caps = [] ∧ s.capd = [] ∧ s.loc = 0 ∧ s.cel = 0
 ua : s.ua = true → (4 : N) ∈ s.own
structure EntOk (S : AS) (e : Role × Nat × N × Bool) : Prop where
 v : isView e.1 = true
 ok : ChOk S (chR S e.1)
 fn : fnV (chR S e.1) = some e.2.1
 g : (lookV (chR S e.1) e.2.2.1).1.isNone = e.2.2.2
 len : (chR S e.1).length ≤ 100
structure SI (S : AS) (us : Uses) (B : BA) : Prop where
 n : S.n = B.nf
 m : S.m = B.nt
 us : us = B.ents.map fun e => (chR S e.1, e.2.2.1)
 ent : ∀ e ∈ B.ents, EntOk S e
 ct : ∀ c, c < S.m → ∃ f, fnV (S.ct c).ch = some f ∧ f < S.n ∧ c ∈ (S.sc f).cats
 cats : ∀ k, (S.sc k).cats.Nodup ∧ ∀ c ∈ (S.sc k).cats, c < S.m ∧ fnV (S.ct c).ch = some k
 trs : B.trs.length = S.n ∧ ∀ k, k < S.n → B.trs.getD k 0 = (S.sc k).cats.length
 fl : B.fl.length + 1 = S.n ∧ ∀ j o, B.fl[j]? = some o → (S.sc (j + 1)).own.length = (o.foldl addN []).length ∧ o.length ≤ 4000
 sc : ∀ k, ScOk (S.sc k)
 pl : ∀ b, S.pl b = none
structure View (S : AS) (ro : Role) (f : Nat) (K : List N) (D : Nat) : Prop where
 v : isView ro = true
 ok : ChOk S (chR S ro)
 fn : fnV (chR S ro) = some f
 K : ∀ x, K.contains x = (lookV (chR S ro) x).1.isSome
 len : (chR S ro).length + D ≤ 100
theorem chR_le {S S' : AS} (h : SLe S S') {ro : Role} (v : isView ro = true) (ok : ChOk S (chR S ro)) : chR S' ro = chR S ro := by
 cases ro with
 | sc k => refine xe03 (h.sc k ok.1) fun a b c => ?_; show VE.sc k (S'.sc k).own (S'.sc k).sf :: (S'.sc k).ch = _; rw [a, b, c]; rfl
 | ct c => have := h.ct c ok.1; show VE.ct c (S'.ct c).nm :: (S'.ct c).ch = _; rw [this]; rfl
 | _ => exact ft v
theorem View.le {S S' : AS} {ro : Role} {f D : Nat} {K : List N} (h : View S ro f K D) (l : SLe S S') : View S' ro f K D ∧ chR S' ro = chR S ro := by
 have e := chR_le l h.v h.ok
 exact ⟨⟨h.v, by rw [e]; exact h.ok.le l, by rw [e]; exact h.fn, by rw [e]; exact h.K, by rw [e]; exact h.len⟩, e⟩
theorem EntOk.le {S S' : AS} {e : Role × Nat × N × Bool} (h : EntOk S e) (l : SLe S S') : EntOk S' e := by
 have q := chR_le l h.v h.ok
 exact ⟨h.v, by rw [q]; exact h.ok.le l, by rw [q]; exact h.fn, by rw [q]; exact h.g, by rw [q]; exact h.len⟩
theorem us_le {S S' : AS} {us : Uses} {B : BA} (h : SI S us B) (l : SLe S S') : us = B.ents.map fun e => (chR S' e.1, e.2.2.1) := by
 rw [h.us]
 exact List.map_congr_left fun e he => by rw [chR_le l (h.ent e he).v (h.ent e he).ok]
theorem fnV_ok {S : AS} {ch : List VE} {f : Nat} (ok : ChOk S ch) (e : fnV ch = some f) : f < S.n := fnV_lt ok e
theorem SI.ent1 {S : AS} {us : Uses} {B : BA} (h : SI S us B) {ro : Role} {f D : Nat} {K : List N} (v : View S ro f K D) (x : N) : SI S (us ++ [(chR S ro, x)]) (entB B ro f K x) :=
 { h with
  us := by rw [h.us]; unfold entB; rw [List.map_append]; rfl
  ent := fun e he => by
   rcases List.mem_append.mp he with he | he
   ·exact h.ent e he
   ·rw [List.mem_singleton.mp he]
    refine ⟨v.v, v.ok, v.fn, ?_, by have := v.len; show (chR S ro).length ≤ 100; lia⟩
    show (lookV (chR S ro) x).1.isNone = !K.contains x
    rw [v.K x]; cases (lookV (chR S ro) x).1 <;> rfl }
theorem SI.tr1 {S : AS} {us : Uses} {B : BA} (h : SI S us B) {ro : Role} {f D : Nat} {K : List N} (v : View S ro f K D) (x : N) : SI (scTr S (chR S ro) f x) us (tryB B f) := by
 have hf := fnV_ok v.ok v.fn
 have hc : ∀ c, c < S.m → (scTr S (chR S ro) f x).ct c = S.ct c := fun c hc => scTr_le.ct c hc
 have hk : ∀ k, ((scTr S (chR S ro) f x).sc k).cats = if k = f then (S.sc f).cats ++ [S.m] else (S.sc k).cats := fun k => by
  unfold scTr catAdd
  by_cases e : k = f
  ·subst e; rw [setSc_self, if_pos rfl]; rfl
  ·rw [setSc_ne e, if_neg e]; rfl
 refine ⟨h.n, congrArg Nat.succ h.m, us_le (B := B) h scTr_le, fun e he => (h.ent e he).le scTr_le, fun c hcm => ?_, fun k => ⟨?_, fun c hcm => ?_⟩, ⟨(List.length_set ..).trans h.trs.1, fun k hkn => ?_⟩, ⟨h.fl.1, fun j o hj => ?_⟩, fun k => ?_, h.pl⟩
 ·by_cases e : c = S.m
  ·subst e; rw [scTr_ct]
   exact ⟨f, v.fn, hf, by rw [hk, if_pos rfl]; exact List.mem_append_right _ (List.mem_singleton_self _)⟩
  ·have hlt : c < S.m := by have : c < S.m + 1 := hcm; lia
   refine xe13 (h.ct c hlt) fun f' h1 h2 h3 => ?_
   rw [hc c hlt]
   refine ⟨f', h1, h2, ?_⟩
   rw [hk]; split
   ·rename_i e; rw [e] at h3; exact List.mem_append_left _ h3
   ·exact h3
 ·rw [hk]; split
  ·refine List.nodup_append.mpr ⟨(h.cats f).1, List.nodup_cons.mpr ⟨List.not_mem_nil, List.nodup_nil⟩, fun a ha b hb e => ?_⟩
   have := ((h.cats f).2 a ha).1
   rw [e, List.mem_singleton.mp hb] at this
   exact absurd this (Nat.lt_irrefl _)
  ·exact (h.cats k).1
 ·rw [hk] at hcm
  have old : ∀ k', c ∈ (S.sc k').cats → c < (scTr S (chR S ro) f x).m ∧ fnV ((scTr S (chR S ro) f x).ct c).ch = some k' := fun k' hm => by
   refine xe02 ((h.cats k').2 c hm) fun h1 h2 => ?_
   rw [hc c h1]; exact ⟨Nat.lt_succ_of_lt h1, h2⟩
  split at hcm
  ·rename_i e
   rcases List.mem_append.mp hcm with hm | hm
   ·rw [e]; exact old _ hm
   ·rw [List.mem_singleton.mp hm, scTr_ct, e]; exact ⟨Nat.lt_succ_self _, v.fn⟩
  ·exact old _ hcm
 ·show (B.trs.set f (B.trs.getD f 0 + 1)).getD k 0 = _
  have hkn : k < S.n := hkn
  rw [hk, List.getD_eq_getElem?_getD, List.getElem?_set]
  by_cases e : k = f
  ·rw [if_pos e.symm, if_pos e, if_pos (by rw [h.trs.1]; exact hf), List.length_append, h.trs.2 f hf]; rfl
  ·rw [if_neg (fun q => e q.symm), if_neg e, ← List.getD_eq_getElem?_getD]; exact h.trs.2 k hkn
 ·refine xe02 (h.fl.2 j o hj) fun h1 h2 => ?_
  exact ⟨(congrArg List.length (scTr_sc Sc.own (fun U U => rfl) (j + 1))).trans h1, h2⟩
 ·obtain ⟨h1, h2, h3, h4, h5, h6⟩ := h.sc k
  have e1 := scTr_sc (S := S) (ch := chR S ro) (f := f) (x := x) Sc.own (fun U U => rfl) k
  have e2 := scTr_sc (S := S) (ch := chR S ro) (f := f) (x := x) Sc.sf (fun U U => rfl) k
  have e3 := scTr_sc (S := S) (ch := chR S ro) (f := f) (x := x) Sc.ps (fun U U => rfl) k
  have e4 := scTr_sc (S := S) (ch := chR S ro) (f := f) (x := x) Sc.ua (fun U U => rfl) k
  have e5 := scTr_sc (S := S) (ch := chR S ro) (f := f) (x := x) (fun s => (s.pps, s.caps, s.capd, s.loc, s.cel)) (fun U U => rfl) k
  simp only [Prod.mk.injEq] at e5
  refine xe05 e5 fun f1 f2 f3 f4 f5 => ?_
  exact ⟨by rw [e1]; exact h1, by rw [e1, e2]; exact h2, by rw [e1, e3]; exact h3, by rw [e3]; exact h4, by rw [f1, f2, f3, f4, f5]; exact h5, by rw [e1, e4]; exact h6⟩
theorem View.ct {S : AS} {ro : Role} {f D : Nat} {K : List N} (v : View S ro f K (D + 1)) (x : N) : View (scTr S (chR S ro) f x) (.ct S.m) f (K ++ [x]) D ∧ chR (scTr S (chR S ro) f x) (.ct S.m) = .ct S.m x :: chR S ro := by
 have e : chR (scTr S (chR S ro) f x) (.ct S.m) = .ct S.m x :: chR S ro := by show VE.ct S.m ((scTr S (chR S ro) f x).ct S.m).nm :: ((scTr S (chR S ro) f x).ct S.m).ch = _; rw [scTr_ct]
 refine ⟨⟨rfl, ?_, ?_, fun y => ?_, ?_⟩, e⟩
 ·rw [e]; exact ⟨Nat.lt_succ_self _, by rw [scTr_ct], by rw [scTr_ct], v.ok.le scTr_le⟩
 ·rw [e]; exact v.fn
 ·have := v.K y
  rw [e, List.contains_append, this]
  show _ = (match bindVE (.ct S.m x) y with
   | some b => (some b, [])
   | none => ((lookV (chR S ro) y).1, passVE (.ct S.m x) ++ (lookV (chR S ro) y).2)).1.isSome
  rw [bindVE_ct, List.contains_cons, List.contains_nil, Bool.or_false]
  by_cases q : y = x
  ·rw [if_pos q, q, beq_self_eq_true, Bool.or_true]; rfl
  ·rw [if_neg q, beq_eq_false_iff_ne.mpr q, Bool.or_false]
 ·rw [e, List.length_cons]; have := v.len; lia
theorem SI.fn1 {S : AS} {us : Uses} {B : BA} (h : SI S us B) {ro : Role} {f D : Nat} {K : List N} (v : View S ro f K D) {q : Bool} {d : Bool} {x : N} {ps : List N} {st : Bool} {b : T} (hb : okT q b) (h4 : (4 : N) ∉ ps) (hp : ps.length ≤ 2) (hs : sz b ≤ 1000) : SI (scFn S (chR S ro) f d x ps st b) us (fnB B (ps ++ ownL b)) := by
 have hf := fnV_ok v.ok v.fn
 have hl : SLe S (scFn S (chR S ro) f d x ps st b) := scFn_le
 have gk : ∀ {β : Type} (g : Sc → β), (∀ (s : Sc) l, g { s with kids := l } = g s) → ∀ k, g ((scFn S (chR S ro) f d x ps st b).sc k) = if k = S.n then g ⟨chR S ro, st, needN ps b, ps, bindN ps b, sfN d x ps b, [], [], 0, 0, [], [], []⟩ else g (S.sc k) := fun g hg k => by
  unfold scFn kidAdd
  rw [sc_setSc g (hg _ _)]
  show g (upd S.sc S.n _ k) = _
  by_cases e : k = S.n
  ·rw [if_pos e, e, upd_self]
  ·rw [if_neg e, upd_ne _ _ e]
 have hcn : ∀ k, ((scFn S (chR S ro) f d x ps st b).sc k).cats = if k = S.n then [] else (S.sc k).cats := gk Sc.cats fun U U => rfl
 have ho := gk Sc.own fun U U => rfl
 have hown : ∀ y, y ∈ bindN ps b ↔ y ∈ ps ∨ y ∈ ownL b := fun y => by rw [bind_mem hb h4, List.mem_append]
 refine ⟨congrArg Nat.succ h.n, h.m, us_le (B := B) h hl, fun e he => (h.ent e he).le hl, fun c hcm => ?_, fun k => ?_, ⟨?_, fun k hkn => ?_⟩, ⟨?_, fun j o hj => ?_⟩, fun k => ?_, h.pl⟩
 ·refine xe13 (h.ct c hcm) fun f' h1 h2 h3 => ?_
  exact ⟨f', h1, Nat.lt_succ_of_lt h2, by rw [hcn, if_neg (by lia)]; exact h3⟩
 ·rw [hcn]; split
  ·exact ⟨List.nodup_nil, fun U hc => (nomatch hc)⟩
  ·exact h.cats k
 ·show (B.trs ++ [0]).length = S.n + 1
  rw [List.length_append, h.trs.1]; rfl
 ·show (B.trs ++ [0]).getD k 0 = _
  rw [hcn, List.getD_eq_getElem?_getD, List.getElem?_append, h.trs.1]
  by_cases e : k = S.n
  ·rw [if_pos e, if_neg (by lia), e, Nat.sub_self]; rfl
  ·have hkn : k < S.n + 1 := hkn
   rw [if_neg e, if_pos (by lia), ← List.getD_eq_getElem?_getD]; exact h.trs.2 k (by lia)
 ·show (B.fl ++ [ps ++ ownL b]).length + 1 = S.n + 1
  rw [List.length_append, ← h.fl.1]; rfl
 ·have hj : (B.fl ++ [ps ++ ownL b])[j]? = some o := hj
  rw [List.getElem?_append] at hj
  have hlf := h.fl.1
  split at hj
  ·refine xe02 (h.fl.2 j o hj) fun h1 h2 => ?_
   exact ⟨by rw [ho, if_neg (by lia)]; exact h1, h2⟩
  ·have hj0 : j - B.fl.length = 0 := by have := (Gs hj).1; rw [List.length_singleton] at this; lia
   rw [hj0] at hj; obtain rfl := si hj
   rw [ho, if_pos (by lia)]
   exact ⟨bind_len hb h4, by rw [List.length_append]; have := ownL_len b; lia⟩
 ·by_cases e : k = S.n
  ·have e1 := ho k; have e2 := gk Sc.sf (fun U U => rfl) k; have e3 := gk Sc.ps (fun U U => rfl) k; have e4 := gk Sc.ua (fun U U => rfl) k
   have e5 := gk (fun s => (s.pps, s.caps, s.capd, s.loc, s.cel)) (fun U U => rfl) k
   rw [if_pos e] at e1 e2 e3 e4 e5
   simp only [Prod.mk.injEq] at e5
   refine xe05 e5 fun f1 f2 f3 f4 f5 => ?_
   refine ⟨by rw [e1]; exact bind_nodup, fun y hy => ?_, fun y hy => ?_, by rw [e3]; exact Nat.le_trans hp (by decide), ⟨f1, f2, f3, f4, f5⟩, fun hu => ?_⟩
   ·rw [e2] at hy; rw [e1]
    have hy : sfN d x ps b = some y := hy
    unfold sfN at hy; split at hy
    ·rename_i hx; obtain rfl := si hy; exact hx.2
    ·exact nn hy
   ·rw [e3] at hy; rw [e1]; exact (hown y).mpr (.inl hy)
   ·rw [e4] at hu; rw [e1]
    exact (hown 4).mpr (.inr ((own_mem hb).mpr (.inr (.inr ⟨rfl, (need_iff hb h4).mp hu⟩))))
  ·obtain ⟨h1, h2, h3, h4, h5, h6⟩ := h.sc k
   have e1 := ho k; have e2 := gk Sc.sf (fun U U => rfl) k; have e3 := gk Sc.ps (fun U U => rfl) k; have e4 := gk Sc.ua (fun U U => rfl) k
   have e5 := gk (fun s => (s.pps, s.caps, s.capd, s.loc, s.cel)) (fun U U => rfl) k
   rw [if_neg e] at e1 e2 e3 e4 e5
   simp only [Prod.mk.injEq] at e5
   refine xe05 e5 fun f1 f2 f3 f4 f5 => ?_
   exact ⟨by rw [e1]; exact h1, by rw [e1, e2]; exact h2, by rw [e1, e3]; exact h3, by rw [e3]; exact h4, by rw [f1, f2, f3, f4, f5]; exact h5, by rw [e1, e4]; exact h6⟩
theorem View.fnv {S : AS} {ro : Role} {f D : Nat} {K : List N} (v : View S ro f K (D + 1)) {q d : Bool} {x : N} {ps : List N} {st : Bool} {b : T} (hb : okT q b) (h4 : (4 : N) ∉ ps) : View (scFn S (chR S ro) f d x ps st b) (.sc S.n) S.n (K ++ ((ps ++ ownL b) ++ if d then [] else [x])) D ∧ chR (scFn S (chR S ro) f d x ps st b) (.sc S.n) = .sc S.n (bindN ps b) (sfN d x ps b) :: chR S ro := by
 have e1 := scFn_new (S := S) (ch := chR S ro) (f := f) (d := d) (x := x) (ps := ps) (st := st) (b := b) Sc.own (fun U U => rfl)
 have e2 := scFn_new (S := S) (ch := chR S ro) (f := f) (d := d) (x := x) (ps := ps) (st := st) (b := b) Sc.sf (fun U U => rfl)
 have e3 := scFn_new (S := S) (ch := chR S ro) (f := f) (d := d) (x := x) (ps := ps) (st := st) (b := b) Sc.ch (fun U U => rfl)
 have e : chR (scFn S (chR S ro) f d x ps st b) (.sc S.n) = .sc S.n (bindN ps b) (sfN d x ps b) :: chR S ro := by
  show VE.sc S.n (((scFn S (chR S ro) f d x ps st b)).sc S.n).own (((scFn S (chR S ro) f d x ps st b)).sc S.n).sf :: (((scFn S (chR S ro) f d x ps st b)).sc S.n).ch = _
  rw [e1, e2, e3]
 refine ⟨⟨rfl, ?_, ?_, fun y => ?_, ?_⟩, e⟩
 ·rw [e]; exact ⟨Nat.lt_succ_self _, e1, e2, e3, v.ok.le scFn_le⟩
 ·rw [e]; rfl
 ·have hk := v.K y
  have hm := bind_mem (y := y) hb h4
  rw [e, List.contains_append, hk, Bool.eq_iff_iff, Bool.or_eq_true, List.contains_iff_mem, List.mem_append]
  show _ ↔ (match bindVE (.sc S.n (bindN ps b) (sfN d x ps b)) y with
   | some b => (some b, [])
   | none => ((lookV (chR S ro) y).1, passVE (.sc S.n (bindN ps b) (sfN d x ps b)) ++ (lookV (chR S ro) y).2)).1.isSome = true
  rw [bindVE_sc, ← hm]
  by_cases q1 : y ∈ bindN ps b
  ·rw [if_pos q1]; exact ⟨fun U => rfl, fun U => .inr (.inl q1)⟩
  ·rw [if_neg q1]
   unfold sfN
   cases d with
   | true => simp [q1]
   | false =>
    by_cases q2 : y = x
    ·subst q2; simp [q1]
    ·have : ¬ (if false = false ∧ x ∉ bindN ps b then some x else none) = some y := by
      split
      ·intro q3; obtain rfl := si q3; exact q2 rfl
      ·nofun
     rw [if_neg this]
     simp [q1, q2]
 ·rw [e, List.length_cons]; have := v.len; lia
theorem scan_si : ∀ (t : T) (b : Bool) (ro : Role) (f : Nat) (K : List N) (q : AS × Uses) (B : BA) (D : Nat), okT b t → dep t ≤ D → sz t ≤ 1000 → SI q.1 q.2 B → View q.1 ro f K D →
  SI (scan t (chR q.1 ro) f q).1 (scan t (chR q.1 ro) f q).2 (bld t ro f K B) ∧ SLe q.1 (scan t (chR q.1 ro) f q).1
 | .nil, _, _, _, _, _, _, _, _, _, _, h, _ => ⟨h, SLe.refl⟩
 | .use x r, b, ro, f, K, q, B, D, hb, hd, hz, h, v => scan_si r b ro f K (q.1, q.2 ++ [(chR q.1 ro, x)]) _ D hb hd (by simp only [szE] at hz; lia) (h.ent1 v x) v
 | .var x y r, b, ro, f, K, q, B, D, hb, hd, hz, h, v => scan_si r b ro f K (q.1, q.2 ++ [(chR q.1 ro, x)] ++ [(chR q.1 ro, y)]) _ D hb.2 hd (by simp only [szE] at hz; lia) ((h.ent1 v x).ent1 v y) v
 | .tr x i o r, b, ro, f, K, q, B, D, hb, hd, hz, h, v => by
  simp only [depE, szE] at hd hz
  obtain ⟨D, rfl⟩ : ∃ D', D = D' + 1 := ⟨D - 1, by lia⟩
  have s1 : SLe q.1 (scTr q.1 (chR q.1 ro) f x) := scTr_le
  refine xe02 (v.le s1) fun v1 e1 => ?_
  refine xe02 (v.ct x) fun vc ec => ?_
  refine xe02 (scan_si i false ro f K (scTr q.1 (chR q.1 ro) f x, q.2) _ (D + 1) hb.2.1 (by lia) (by lia) (h.tr1 v x) v1) fun h2 s2 => ?_
  rw [e1] at h2 s2
  refine xe02 (vc.le s2) fun vc2 ec2 => ?_
  refine xe02 (scan_si o false (.ct q.1.m) f (K ++ [x]) _ _ D hb.2.2.1 (by lia) (by lia) h2 vc2) fun h3 s3 => ?_
  rw [ec2, ec] at h3 s3
  have s13 := (s1.trans s2).trans s3
  refine xe02 (v.le s13) fun v3 e3 => ?_
  refine xe02 (scan_si r b ro f K _ _ (D + 1) hb.2.2.2 (by lia) (by lia) h3 v3) fun h4 s4 => ?_
  rw [e3] at h4 s4
  rw [h.m] at h4 s4
  simp only [scanE, bldE, h.m]
  exact ⟨h4, (by rw [h.m] at s13; exact s13 : SLe q.1 _).trans s4⟩
 | .fn d x ps st t r, b, ro, f, K, q, B, D, hb, hd, hz, h, v => by
  simp only [depE, szE] at hd hz
  obtain ⟨D, rfl⟩ : ∃ D', D = D' + 1 := ⟨D - 1, by lia⟩
  refine xe06 hb fun b1 b2 b3 b4 b5 b6 => ?_
  have s1 : SLe q.1 (scFn q.1 (chR q.1 ro) f d x ps st t) := scFn_le
  refine xe02 (v.fnv (d := d) (x := x) (st := st) b5 b2) fun vc ec => ?_
  refine xe02 (scan_si t true (.sc q.1.n) q.1.n _ (scFn q.1 (chR q.1 ro) f d x ps st t, q.2) _ D b5 (by lia) (by lia) (h.fn1 v b5 b2 b3 (by lia)) vc) fun h2 s2 => ?_
  rw [ec] at h2 s2
  have s12 := s1.trans s2
  refine xe02 (v.le s12) fun v3 e3 => ?_
  refine xe02 (scan_si r b ro f K _ _ (D + 1) b6 (by lia) (by lia) h2 v3) fun h4 s4 => ?_
  rw [e3] at h4 s4
  rw [h.n] at h4 s4
  simp only [scanE, bldE, h.n]
  exact ⟨h4, (by rw [h.n] at s12; exact s12 : SLe q.1 _).trans s4⟩
theorem si0 : SI S0 [] ⟨1, 0, [], [], [0]⟩ := by
 have h0 : ∀ k, S0.sc k = ⟨[], false, false, [], [], none, [], [], 0, 0, [], [], []⟩ := fun k => by
  show upd S00.sc 0 _ k = _
  by_cases e : k = 0
  ·subst e; rw [upd_self]
  ·rw [upd_ne _ _ e]; rfl
 exact ⟨rfl, rfl, rfl, fun U h => (nomatch h), fun c hc => absurd hc (Nat.not_lt_zero _), fun k => by rw [h0]; exact ⟨List.nodup_nil, fun U h => (nomatch h)⟩, ⟨rfl, fun k hk => by
  have hk : k < 1 := hk
  rw [h0, show k = 0 by lia]; rfl⟩, ⟨rfl, fun U U h => by exact nn h⟩, fun k => by rw [h0]; exact ⟨List.nodup_nil, nofun, fun U h => (nomatch h), Nat.zero_le _, ⟨rfl, rfl, rfl, rfl, rfl⟩, nofun⟩, fun U => rfl⟩
theorem ch00 : chR S0 (.sc 0) = ch0 := by
 show VE.sc 0 (S0.sc 0).own (S0.sc 0).sf :: (S0.sc 0).ch = _
 have : S0.sc 0 = ⟨[], false, false, [], [], none, [], [], 0, 0, [], [], []⟩ := upd_self ..
 rw [this]
theorem view0 : View S0 (.sc 0) 0 [] 50 := by
 have h0 : S0.sc 0 = ⟨[], false, false, [], [], none, [], [], 0, 0, [], [], []⟩ := upd_self ..
 refine ⟨rfl, ?_, ?_, fun x => ?_, ?_⟩
 ·rw [ch00]; exact ⟨Nat.lt_succ_self _, by rw [h0], by rw [h0], by rw [h0], trivial⟩
 ·rw [ch00]; rfl
 ·rw [ch00]; rfl
 ·rw [ch00]; decide
noncomputable def bldT (t : T) : BA := bld t (.sc 0) 0 [] ⟨1, 0, [], [], [0]⟩
theorem si_T {t : T} (h : okT true t) (hd : dep t ≤ 3) (hs : sz t ≤ 298) : SI (scanT t).1 (scanT t).2 (bldT t) := by
 have := (scan_si t true (.sc 0) 0 [] (S0, []) ⟨1, 0, [], [], [0]⟩ 50 h (by lia) (by lia) si0 view0).1
 rw [ch00] at this
 exact this
end
section
theorem Walk.app {S : AS} {l1 o1 l2 o2 : List Nat} (h : Walk S l1 o1) (h2 : Walk S l2 o2) : Walk S (l1 ++ l2) (o1 ++ o2) := by
 induction h with
 | nil => exact h2
 | cons a _ _ ih => rw [List.cons_append, List.cons_append, List.append_assoc]; exact .cons a ih
theorem kid_fn {S : AS} {ch : List VE} {f : Nat} {d : Bool} {x : N} {ps : List N} {st : Bool} {b : T} (hf : f < S.n) (k : Nat) : ((scFn S ch f d x ps st b).sc k).kids = if k = f then (S.sc f).kids ++ [S.n] else if k = S.n then [] else (S.sc k).kids := by
 have e0 : ∀ k, ((newSc S ch st (needN ps b) ps (bindN ps b) (sfN d x ps b)).sc k).kids = if k = S.n then [] else (S.sc k).kids := fun k => by
  show (upd S.sc S.n _ k).kids = _
  by_cases e : k = S.n
  ·rw [if_pos e, e, upd_self]
  ·rw [if_neg e, upd_ne _ _ e]
 unfold scFn kidAdd
 by_cases e : k = f
 ·rw [if_pos e, e, setSc_self]
  show ((newSc S ch st (needN ps b) ps (bindN ps b) (sfN d x ps b)).sc f).kids ++ [S.n] = _
  rw [e0, if_neg (by lia)]
 ·rw [if_neg e, setSc_ne e, e0]
structure WK (S S' : AS) (f a b : Nat) (l : List Nat) : Prop where
 k : (S'.sc f).kids = (S.sc f).kids ++ l
 o : ∀ k, k < a → k ≠ f → (S'.sc k).kids = (S.sc k).kids
 w : ∀ S'', (∀ k, a ≤ k → k < a + b → (S''.sc k).kids = (S'.sc k).kids) → Walk S'' l (List.range' a b)
theorem scan_wk : ∀ (t : T) (ch : List VE) (f : Nat) (q : AS × Uses), f < q.1.n → ∃ l, WK q.1 (scan t ch f q).1 f q.1.n (nf t) l
 | .nil, _, _, q, _ => ⟨[], (List.append_nil _).symm, fun U U U => rfl, fun U U => .nil⟩
 | .use x r, ch, f, q, h => scan_wk r ch f (q.1, q.2 ++ [(ch, x)]) h
 | .var x y r, ch, f, q, h => scan_wk r ch f (q.1, q.2 ++ [(ch, x)] ++ [(ch, y)]) h
 | .tr x i o r, ch, f, q, h => by
  have e1 : ∀ k, ((scTr q.1 ch f x).sc k).kids = (q.1.sc k).kids := scTr_sc Sc.kids fun U U => rfl
  obtain ⟨l1, a1, a2, a3⟩ := scan_wk i ch f (scTr q.1 ch f x, q.2) h
  have n1 : (scan i ch f (scTr q.1 ch f x, q.2)).1.n = q.1.n + nf i := (scan_n i ch f _).1
  obtain ⟨l2, b1, b2, b3⟩ := scan_wk o (.ct q.1.m x :: ch) f (scan i ch f (scTr q.1 ch f x, q.2)) (by rw [n1]; lia)
  have n2 := (scan_n o (.ct q.1.m x :: ch) f (scan i ch f (scTr q.1 ch f x, q.2))).1
  rw [n1] at n2 b2 b3
  obtain ⟨l3, c1, c2, c3⟩ := scan_wk r ch f (scan o (.ct q.1.m x :: ch) f (scan i ch f (scTr q.1 ch f x, q.2))) (by rw [n2]; lia)
  rw [n2] at c2 c3
  have a3 : ∀ S'', (∀ k, q.1.n ≤ k → k < q.1.n + nf i → (S''.sc k).kids = ((scan i ch f (scTr q.1 ch f x, q.2)).1.sc k).kids) → Walk S'' l1 (List.range' q.1.n (nf i)) := a3
  have a2 : ∀ k, k < q.1.n → k ≠ f → ((scan i ch f (scTr q.1 ch f x, q.2)).1.sc k).kids = ((scTr q.1 ch f x).sc k).kids := a2
  refine ⟨l1 ++ (l2 ++ l3), ?_, fun k hk hkf => ?_, fun S'' hS => ?_⟩
  ·show ((scan r ch f _).1.sc f).kids = _
   rw [c1, b1, a1, e1, List.append_assoc, List.append_assoc]
  ·show ((scan r ch f _).1.sc k).kids = _
   rw [c2 k (by lia) hkf, b2 k (by lia) hkf, a2 k hk hkf, e1]
  ·have hS : ∀ k, q.1.n ≤ k → k < q.1.n + (nf i + nf o + nf r) → (S''.sc k).kids = ((scan r ch f (scan o (.ct q.1.m x :: ch) f (scan i ch f (scTr q.1 ch f x, q.2)))).1.sc k).kids := hS
   have w1 := a3 S'' fun k h1 h2 => by rw [hS k h1 (by lia), c2 k (by lia) (by lia), b2 k (by lia) (by lia)]
   have w2 := b3 S'' fun k h1 h2 => by rw [hS k (by lia) (by lia), c2 k (by lia) (by lia)]
   have w3 := c3 S'' fun k h1 h2 => hS k (by lia) (by lia)
   have := w1.app (w2.app w3)
   rw [show List.range' q.1.n (nf (.tr x i o r)) = List.range' q.1.n (nf i) ++ (List.range' (q.1.n + nf i) (nf o) ++ List.range' (q.1.n + nf i + nf o) (nf r)) by
    show List.range' q.1.n (nf i + nf o + nf r) = _
    rw [List.range'_append_1, List.range'_append_1, Nat.add_assoc]]
   exact this
 | .fn d x ps st t r, ch, f, q, h => by
  have e1 := kid_fn (S := q.1) (ch := ch) (d := d) (x := x) (ps := ps) (st := st) (b := t) h
  obtain ⟨l1, a1, a2, a3⟩ := scan_wk t (.sc q.1.n (bindN ps t) (sfN d x ps t) :: ch) q.1.n (scFn q.1 ch f d x ps st t, q.2) (Nat.lt_succ_self _)
  have n1 : (scan t (.sc q.1.n (bindN ps t) (sfN d x ps t) :: ch) q.1.n (scFn q.1 ch f d x ps st t, q.2)).1.n = q.1.n + 1 + nf t := (scan_n t _ _ _).1
  obtain ⟨l2, b1, b2, b3⟩ := scan_wk r ch f (scan t (.sc q.1.n (bindN ps t) (sfN d x ps t) :: ch) q.1.n (scFn q.1 ch f d x ps st t, q.2)) (by rw [n1]; lia)
  rw [n1] at b2 b3
  have a3 : ∀ S'', (∀ k, q.1.n + 1 ≤ k → k < q.1.n + 1 + nf t → (S''.sc k).kids = ((scan t (.sc q.1.n (bindN ps t) (sfN d x ps t) :: ch) q.1.n (scFn q.1 ch f d x ps st t, q.2)).1.sc k).kids) → Walk S'' l1 (List.range' (q.1.n + 1) (nf t)) := a3
  have a2 : ∀ k, k < q.1.n + 1 → k ≠ q.1.n → ((scan t (.sc q.1.n (bindN ps t) (sfN d x ps t) :: ch) q.1.n (scFn q.1 ch f d x ps st t, q.2)).1.sc k).kids = ((scFn q.1 ch f d x ps st t).sc k).kids := a2
  refine ⟨q.1.n :: l2, ?_, fun k hk hkf => ?_, fun S'' hS => ?_⟩
  ·show ((scan r ch f _).1.sc f).kids = _
   rw [b1, a2 f (by lia) (by lia), e1, if_pos rfl, List.append_assoc]; rfl
  ·show ((scan r ch f _).1.sc k).kids = _
   rw [b2 k (by lia) hkf, a2 k (by lia) (by lia), e1, if_neg hkf, if_neg (by lia)]
  ·have hS : ∀ k, q.1.n ≤ k → k < q.1.n + (1 + nf t + nf r) → (S''.sc k).kids = ((scan r ch f (scan t (.sc q.1.n (bindN ps t) (sfN d x ps t) :: ch) q.1.n (scFn q.1 ch f d x ps st t, q.2))).1.sc k).kids := hS
   have w1 := a3 S'' fun k h1 h2 => by rw [hS k (by lia) (by lia), b2 k (by lia) (by lia)]
   have w2 := b3 S'' fun k h1 h2 => hS k (by lia) (by lia)
   have ek : (S''.sc q.1.n).kids = l1 := by
    rw [hS _ (Nat.le_refl _) (by lia), b2 _ (by lia) (by lia), a1]
    show ((scFn q.1 ch f d x ps st t).sc q.1.n).kids ++ l1 = l1
    rw [e1, if_neg (by lia), if_pos rfl]; rfl
   have := Walk.cons (k := q.1.n) (by rw [ek]; exact w1) w2
   rw [show List.range' q.1.n (nf (.fn d x ps st t r)) = q.1.n :: (List.range' (q.1.n + 1) (nf t) ++ List.range' (q.1.n + 1 + nf t) (nf r)) by
    show List.range' q.1.n (1 + nf t + nf r) = _
    rw [List.range'_append_1, show 1 + nf t + nf r = (nf t + nf r) + 1 by lia, List.range'_succ]]
   exact this
theorem walk_T (t : T) : Walk (scanT t).1 [0] (List.range (scanT t).1.n) := by
 obtain ⟨l, a1, a2, a3⟩ := scan_wk t ch0 0 (S0, []) (Nat.lt_succ_self _)
 have n1 : (scanT t).1.n = 1 + nf t := (scan_n t _ _ _).1
 have e0 : (S0.sc 0).kids = [] := by show (upd S00.sc 0 _ 0).kids = []; rw [upd_self]
 have w := Walk.cons (k := 0) (S := (scanT t).1) (by
  have := a3 (scanT t).1 fun U U U => rfl
  rw [show ((scanT t).1.sc 0).kids = l from a1.trans (by rw [show ((S0, ([] : Uses)).1.sc 0).kids = [] from e0]; rfl)]; exact this) (.nil (S := (scanT t).1))
 rw [n1, List.range_eq_range', show 1 + nf t = nf t + 1 by lia, List.range'_succ]
 rw [List.append_nil] at w
 exact w
end
section
noncomputable def selfs (S : AS) (us : Uses) (k : Nat) : List BId := match (S.sc k).sf with
 | some y => if us.any (selfHit k y) then [.self k] else []
 | none => []
noncomputable def bl (S : AS) (us : Uses) (k : Nat) : List BId := (S.sc k).own.map (.own k) ++ (selfs S us k ++ (S.sc k).cats.map .ct)
noncomputable def giveL (k : Nat) (T : AS) (bs : List BId) : AS := bs.foldl (fun T b => giveA T k b) T
theorem giveL_app (k : Nat) (T : AS) (l m : List BId) : giveL k T (l ++ m) = giveL k (giveL k T l) m := List.foldl_append ..
theorem placesA_eq (S : AS) (k : Nat) (us : Uses) : placesA S k us = (S.sc k).ps.foldl (gPar k) (giveL k S (bl S us k)) := by
 unfold placesA bl
 rw [giveL_app, giveL_app]
 congr 1
 show (S.sc k).cats.foldl (gCat k) _ = giveL k _ ((S.sc k).cats.map .ct)
 unfold giveL
 rw [List.foldl_map, List.foldl_map]
 show (S.sc k).cats.foldl (gCat k) _ = (S.sc k).cats.foldl (gCat k) _
 congr 1
 show gSelf k ((S.sc k).own.foldl (gOwn k) S) us = (selfs S us k).foldl (fun T b => giveA T k b) ((S.sc k).own.foldl (gOwn k) S)
 have h : (((S.sc k).own.foldl (gOwn k) S).sc k).sf = (S.sc k).sf := ((stat_fold (f := gOwn k) (fun U U => giveA_stat) (S.sc k).own S).sc k).2.2.2.2.2.1
 unfold gSelf selfs
 rw [h]
 cases (S.sc k).sf with
 | none => rfl
 | some y => dsimp only; split <;> rfl
theorem giveA_at (T : AS) (k : Nat) (b : BId) : (giveA T k b).cap = T.cap ∧ (giveA T k b).pl = upd T.pl b (some (T.cap b, if T.cap b then (T.sc k).cel else (T.sc k).loc)) ∧ (∀ k', k' ≠ k → (giveA T k b).sc k' = T.sc k') ∧
  ((giveA T k b).sc k).loc = (T.sc k).loc + (if T.cap b then 0 else 1) ∧ ((giveA T k b).sc k).cel = (T.sc k).cel + (if T.cap b then 1 else 0) := by
 unfold giveA
 cases T.cap b
 ·refine ⟨rfl, rfl, fun k' h => upd_ne _ _ h, ?_, ?_⟩
  ·show (upd T.sc k _ k).loc = _; rw [upd_self]; rfl
  ·show (upd T.sc k _ k).cel = _; rw [upd_self]; rfl
 ·refine ⟨rfl, rfl, fun k' h => upd_ne _ _ h, ?_, ?_⟩
  ·show (upd T.sc k _ k).loc = _; rw [upd_self]; rfl
  ·show (upd T.sc k _ k).cel = _; rw [upd_self]; rfl
structure GV (T T' : AS) (k : Nat) (bs : List BId) : Prop where
 ne : ∀ b, b ∉ bs → T'.pl b = T.pl b
 sc : ∀ k', k' ≠ k → (T'.sc k').loc = (T.sc k').loc ∧ (T'.sc k').cel = (T.sc k').cel
 le : (T.sc k).loc ≤ (T'.sc k).loc ∧ (T.sc k).cel ≤ (T'.sc k).cel
 at_ : ∀ b ∈ bs, ∃ c i, T'.pl b = some (c, i) ∧ (if c then (T.sc k).cel else (T.sc k).loc) ≤ i ∧ i < (if c then (T'.sc k).cel else (T'.sc k).loc)
 inj : ∀ b ∈ bs, ∀ b' ∈ bs, T'.pl b = T'.pl b' → b = b'
 cnt : (T'.sc k).loc + (T'.sc k).cel = (T.sc k).loc + (T.sc k).cel + bs.length
theorem giveL_gv (k : Nat) : ∀ (bs : List BId) (T : AS), bs.Nodup → GV T (giveL k T bs) k bs
 | [], T, _ => ⟨fun U U => rfl, fun U U => ⟨rfl, rfl⟩, ⟨Nat.le_refl _, Nat.le_refl _⟩, fun U h => (nomatch h), fun U h => (nomatch h), rfl⟩
 | b :: bs, T, hn => by
  refine xe02 (List.nodup_cons.mp hn) fun hb hn => ?_
  refine xe05 (giveA_at T k b) fun a1 a2 a3 a4 a5 => ?_
  obtain ⟨h1, h2, h3, h4, h5, h6⟩ := giveL_gv k bs (giveA T k b) hn
  show GV T (giveL k (giveA T k b) bs) k (b :: bs)
  have hbp : (giveL k (giveA T k b) bs).pl b = some (T.cap b, if T.cap b then (T.sc k).cel else (T.sc k).loc) := by rw [h1 b hb, a2, upd_self]
  have key : ∀ b' ∈ bs, (giveL k (giveA T k b) bs).pl b ≠ (giveL k (giveA T k b) bs).pl b' := fun b' hb' e => by
   refine xe23 (h4 b' hb') fun c i e1 e2 U => ?_
   rw [hbp, e1] at e
   injection e with e
   injection e with ec ei
   rw [a4, a5, ← ec, ← ei] at e2
   cases q : T.cap b <;> simp [q] at e2 <;> lia
  refine ⟨fun b' hb' => ?_, fun k' hk => ?_, ?_, fun b' hb' => ?_, fun b1 m1 b2 m2 e => ?_, ?_⟩
  ·rw [h1 b' (fun q => hb' (.tail _ q)), a2, upd_ne _ _ (fun q : b' = b => hb' (by rw [q]; exact .head _))]
  ·rw [(h2 k' hk).1, (h2 k' hk).2, a3 k' hk]; exact ⟨rfl, rfl⟩
  ·rw [a4, a5] at h3; lia
  ·rcases List.mem_cons.mp hb' with rfl | hb'
   ·refine ⟨_, _, hbp, Nat.le_refl _, ?_⟩
    rw [a4, a5] at h3
    cases q : T.cap b' <;> simp [q] at h3 ⊢ <;> lia
   ·refine xe23 (h4 b' hb') fun c i e1 e2 e3 => ?_
    refine ⟨c, i, e1, ?_, e3⟩
    rw [a4, a5] at e2
    cases c <;> simp at e2 ⊢ <;> lia
  ·rcases List.mem_cons.mp m1 with e1 | n1 <;> rcases List.mem_cons.mp m2 with e2 | n2
   ·rw [e1, e2]
   ·rw [e1] at e; exact absurd e (key _ n2)
   ·rw [e2] at e; exact absurd e.symm (key _ n1)
   ·exact h5 _ n1 _ n2 e
  ·rw [h6, a4, a5, List.length_cons]
   cases T.cap b <;> simp <;> lia
theorem gPar_at (k : Nat) : ∀ (l : List N) (T : AS), (l.foldl (gPar k) T).pl = T.pl ∧ ∀ k', ((l.foldl (gPar k) T).sc k').loc = (T.sc k').loc ∧ ((l.foldl (gPar k) T).sc k').cel = (T.sc k').cel
 | [], _ => ⟨rfl, fun U => ⟨rfl, rfl⟩⟩
 | x :: l, T => by
  refine xe02 (gPar_at k l (gPar k T x)) fun h1 h2 => ?_
  refine ⟨h1.trans rfl, fun k' => ?_⟩
  refine xe02 (h2 k') fun h3 h4 => ?_
  have e1 : ((gPar k T x).sc k').loc = (T.sc k').loc := by unfold gPar; exact sc_setSc Sc.loc rfl k'
  have e2 : ((gPar k T x).sc k').cel = (T.sc k').cel := by unfold gPar; exact sc_setSc Sc.cel rfl k'
  exact ⟨h3.trans e1, h4.trans e2⟩
theorem places_gv {S : AS} {k : Nat} {us : Uses} (h : (bl S us k).Nodup) : GV S (placesA S k us) k (bl S us k) := by
 obtain ⟨h1, h2, h3, h4, h5, h6⟩ := giveL_gv k (bl S us k) S h
 refine xe02 (gPar_at k (S.sc k).ps (giveL k S (bl S us k))) fun g1 g2 => ?_
 rw [placesA_eq]
 exact ⟨fun b hb => by rw [g1]; exact h1 b hb, fun k' hk => by rw [(g2 k').1, (g2 k').2]; exact h2 k' hk, by rw [(g2 k).1, (g2 k).2]; exact h3, fun b hb => by rw [g1, (g2 k).1, (g2 k).2]; exact h4 b hb, fun b hb b' hb' => by rw [g1]; exact h5 b hb b' hb', by rw [(g2 k).1, (g2 k).2]; exact h6⟩
theorem bl_stat {S T : AS} (h : Stat S T) (us : Uses) (k : Nat) : bl T us k = bl S us k := by
 refine xe08 (h.sc k) fun U U U U h5 h6 U h8 => ?_
 unfold bl selfs
 rw [h5, h6, h8]
theorem fold_pl {S : AS} {us : Uses} (hn : ∀ k, (bl S us k).Nodup) (hd : ∀ k k' b, b ∈ bl S us k → b ∈ bl S us k' → k = k') : ∀ (ks : List Nat) (T : AS), Stat S T → ks.Nodup →
  (∀ b, (∀ k ∈ ks, b ∉ bl S us k) → (ks.foldl (plA us) T).pl b = T.pl b) ∧ (∀ k, k ∉ ks → ((ks.foldl (plA us) T).sc k).loc = (T.sc k).loc ∧ ((ks.foldl (plA us) T).sc k).cel = (T.sc k).cel) ∧
  (∀ k ∈ ks, (T.sc k).loc = 0 → (T.sc k).cel = 0 → (∀ b ∈ bl S us k, ∃ c i, (ks.foldl (plA us) T).pl b = some (c, i)) ∧ (∀ b ∈ bl S us k, ∀ b' ∈ bl S us k, (ks.foldl (plA us) T).pl b = (ks.foldl (plA us) T).pl b' → b = b') ∧ ((ks.foldl (plA us) T).sc k).loc + ((ks.foldl (plA us) T).sc k).cel = (bl S us k).length)
 | [], T, _, _ => ⟨fun U U => rfl, fun U U => ⟨rfl, rfl⟩, fun U h => (nomatch h)⟩
 | k0 :: ks, T, st, nd => by
  refine xe02 (List.nodup_cons.mp nd) fun hk0 nd => ?_
  have e0 := bl_stat st us k0
  obtain ⟨g1, g2, g3, g4, g5, g6⟩ := places_gv (S := T) (k := k0) (us := us) (by rw [e0]; exact hn k0)
  rw [e0] at g1 g4 g5 g6
  refine xe03 (fold_pl hn hd ks (plA us T k0) (st.trans placesA_stat) nd) fun f1 f2 f3 => ?_
  show (∀ b, _ → (ks.foldl (plA us) (plA us T k0)).pl b = _) ∧ (∀ k, _ → ((ks.foldl (plA us) (plA us T k0)).sc k).loc = _ ∧ ((ks.foldl (plA us) (plA us T k0)).sc k).cel = _) ∧ _
  refine ⟨fun b hb => ?_, fun k hk => ?_, fun k hk z1 z2 => ?_⟩
  ·rw [f1 b fun k hk => hb k (.tail _ hk)]; exact g1 b (hb k0 (.head _))
  ·refine xe02 (f2 k fun q => hk (.tail _ q)) fun a1 a2 => ?_
   refine xe02 (g2 k fun q => hk (q ▸ .head _)) fun b1 b2 => ?_
   exact ⟨a1.trans b1, a2.trans b2⟩
  ·rcases List.mem_cons.mp hk with rfl | hk
   ·have same : ∀ b ∈ bl S us k, (ks.foldl (plA us) (plA us T k)).pl b = (plA us T k).pl b := fun b hb => f1 b fun k' hk' hb' => hk0 (hd _ _ _ hb hb' ▸ hk')
    refine xe02 (f2 k hk0) fun a1 a2 => ?_
    refine ⟨fun b hb => ?_, fun b hb b' hb' e => ?_, ?_⟩
    ·refine xe22 (g4 b hb) fun c i e U => ?_
     exact ⟨c, i, (same b hb).trans e⟩
    ·exact g5 b hb b' hb' ((same b hb).symm.trans (e.trans (same b' hb')))
    ·refine (congr (congrArg _ a1) a2).trans (g6.trans ?_)
     rw [z1, z2]; exact Nat.zero_add _
   ·have hne : k ≠ k0 := fun q => hk0 (q ▸ hk)
    refine xe02 (g2 k hne) fun b1 b2 => ?_
    exact f3 k hk (b1.trans z1) (b2.trans z2)
noncomputable def Owned (S : AS) (k : Nat) (b : BId) (x : N) : Prop := (b = .own k x ∧ x ∈ (S.sc k).own) ∨ (b = .self k ∧ (S.sc k).sf = some x) ∨ (∃ c, b = .ct c ∧ c ∈ (S.sc k).cats ∧ (S.ct c).nm = x)
theorem Owned.name {S : AS} {k k' : Nat} {b : BId} {x x' : N} (h : Owned S k b x) (h' : Owned S k' b x') : x = x' := by
 rcases h with ⟨rfl, _⟩ | ⟨rfl, h⟩ | ⟨c, rfl, _, h⟩ <;> rcases h' with ⟨e, _⟩ | ⟨e, h'⟩ | ⟨c', e, _, h'⟩ <;> cases e
 ·rfl
 ·rw [h] at h'; exact Option.some.inj h'
 ·rw [← h, ← h']
theorem lookV_own {S : AS} {us : Uses} {B : BA} (si : SI S us B) : ∀ (ch : List VE) (x : N) (b : BId) (ps : List Nat), ChOk S ch → lookV ch x = (some b, ps) →
  ∃ k, k < S.n ∧ Owned S k b x ∧ (ps = [] → fnV ch = some k) ∧ (∀ p r, ps = p :: r → fnV ch = some p)
 | [], x, b, ps, _, e => by cases e
 | .sc k own sf :: r, x, b, ps, ok, e => by
  refine xe05 ok fun o1 o2 o3 o4 o5 => ?_
  have e : (match bindVE (.sc k own sf) x with
   | some b => (some b, [])
   | none => ((lookV r x).1, passVE (.sc k own sf) ++ (lookV r x).2)) = (some b, ps) := e
  rw [bindVE_sc] at e
  by_cases q1 : x ∈ own
  ·rw [if_pos q1] at e
   injection e with e1 e2
   injection e1 with e1
   subst e1 e2
   exact ⟨k, o1, .inl ⟨rfl, o2 ▸ q1⟩, fun U => rfl, nofun⟩
  ·rw [if_neg q1] at e
   by_cases q2 : sf = some x
   ·rw [if_pos q2] at e
    injection e with e1 e2
    injection e1 with e1
    subst e1 e2
    exact ⟨k, o1, .inr (.inl ⟨rfl, o3.trans q2⟩), fun U => rfl, nofun⟩
   ·rw [if_neg q2] at e
    injection e with e1 e2
    refine xe14 (lookV_own si r x b (lookV r x).2 o5 (Prod.ext e1 rfl)) fun k' h1 h2 h3 h4 => ?_
    subst e2
    exact ⟨k', h1, h2, nofun, fun p r e => by injection e with e _; exact congrArg some e⟩
 | .ct c y :: r, x, b, ps, ok, e => by
  refine xe04 ok fun o1 o2 o3 o4 => ?_
  have e : (match bindVE (.ct c y) x with
   | some b => (some b, [])
   | none => ((lookV r x).1, passVE (.ct c y) ++ (lookV r x).2)) = (some b, ps) := e
  rw [bindVE_ct] at e
  by_cases q1 : x = y
  ·rw [if_pos q1] at e
   injection e with e1 e2
   injection e1 with e1
   subst e1 e2
   refine xe13 (si.ct c o1) fun f h1 h2 h3 => ?_
   exact ⟨f, h2, .inr (.inr ⟨c, rfl, h3, o2.trans q1.symm⟩), fun U => by rw [← h1, o3]; rfl, nofun⟩
  ·rw [if_neg q1] at e
   injection e with e1 e2
   refine xe14 (lookV_own si r x b (lookV r x).2 o4 (Prod.ext e1 rfl)) fun k' h1 h2 h3 h4 => ?_
   have e2 : (lookV r x).2 = ps := e2
   rw [e2] at h3 h4
   exact ⟨k', h1, h2, h3, h4⟩
theorem own_bl {S : AS} {us : Uses} {q : List VE × N} (hq : q ∈ us) {k : Nat} {b : BId} {ps : List Nat} (e : lookV q.1 q.2 = (some b, ps)) (h : Owned S k b q.2) : b ∈ bl S us k := by
 unfold bl
 rcases h with ⟨rfl, h⟩ | ⟨rfl, h⟩ | ⟨c, rfl, h, _⟩
 ·exact List.mem_append_left _ (List.mem_map.mpr ⟨_, h, rfl⟩)
 ·refine List.mem_append_right _ (List.mem_append_left _ ?_)
  unfold selfs
  rw [h]
  have : us.any (selfHit k q.2) = true := List.any_eq_true.mpr ⟨q, hq, by simp [selfHit, e]⟩
  dsimp only
  rw [if_pos this]; exact List.mem_singleton_self _
 ·exact List.mem_append_right _ (List.mem_append_right _ (List.mem_map.mpr ⟨_, h, rfl⟩))
theorem bl_cases {S : AS} {us : Uses} {k : Nat} {b : BId} (h : b ∈ bl S us k) : (∃ x, b = .own k x) ∨ (b = .self k ∧ selfs S us k = [.self k]) ∨ (∃ c, b = .ct c ∧ c ∈ (S.sc k).cats) := by
 unfold bl at h
 rcases List.mem_append.mp h with h | h
 ·refine xe12 (List.mem_map.mp h) fun x U e => ?_; exact .inl ⟨x, e.symm⟩
 ·rcases List.mem_append.mp h with h | h
  ·have : selfs S us k = [.self k] ∨ selfs S us k = [] := by
    unfold selfs; split
    ·split
     ·exact .inl rfl
     ·exact .inr rfl
    ·exact .inr rfl
   rcases this with e | e
   ·rw [e] at h; exact .inr (.inl ⟨List.mem_singleton.mp h, e⟩)
   ·rw [e] at h; cases h
  ·refine xe12 (List.mem_map.mp h) fun x h e => ?_; exact .inr (.inr ⟨x, e.symm, h⟩)
theorem selfs_or (S : AS) (us : Uses) (k : Nat) : selfs S us k = [.self k] ∨ selfs S us k = [] := by
 unfold selfs; split
 ·split
  ·exact .inl rfl
  ·exact .inr rfl
 ·exact .inr rfl
theorem bl_nodup {S : AS} {us : Uses} {B : BA} (si : SI S us B) (us' : Uses) (k : Nat) : (bl S us' k).Nodup := by
 unfold bl
 have inj : ∀ {α β : Type} {f : α → β} (_ : ∀ a b, f a = f b → a = b) {l : List α}, l.Nodup → (l.map f).Nodup := fun {α β f} hf {l} h => by
  induction l with
  | nil => exact List.nodup_nil
  | cons a l ih =>
   refine xe02 (List.nodup_cons.mp h) fun h1 h2 => ?_
   exact List.nodup_cons.mpr ⟨fun q => by refine xe12 (List.mem_map.mp q) fun b hb e => ?_; exact h1 (hf _ _ e ▸ hb), ih h2⟩
 refine List.nodup_append.mpr ⟨inj (fun a b e => by injection e) (si.sc k).nd, List.nodup_append.mpr ⟨?_, inj (fun a b e => by injection e) (si.cats k).1, fun a ha b hb e => ?_⟩, fun a ha b hb e => ?_⟩
 ·rcases selfs_or S us' k with e | e <;> rw [e]
  ·exact List.nodup_cons.mpr ⟨List.not_mem_nil, List.nodup_nil⟩
  ·exact List.nodup_nil
 ·refine xe12 (List.mem_map.mp hb) fun c U eq2 => ?_; obtain rfl := eq2
  subst e
  rcases selfs_or S us' k with e | e <;> rw [e] at ha
  ·cases List.mem_singleton.mp ha
  ·cases ha
 ·refine xe12 (List.mem_map.mp ha) fun x U eq2 => ?_; obtain rfl := eq2
  subst e
  rcases List.mem_append.mp hb with hb | hb
  ·rcases selfs_or S us' k with e | e <;> rw [e] at hb
   ·cases List.mem_singleton.mp hb
   ·cases hb
  ·refine xe12 (List.mem_map.mp hb) fun c U e => ?_; cases e
theorem bl_dis {S : AS} {us : Uses} {B : BA} (si : SI S us B) (us' : Uses) (k k' : Nat) (b : BId) (h : b ∈ bl S us' k) (h' : b ∈ bl S us' k') : k = k' := by
 rcases bl_cases h with ⟨x, rfl⟩ | ⟨rfl, _⟩ | ⟨c, rfl, hc⟩ <;> rcases bl_cases h' with ⟨x', e⟩ | ⟨e, _⟩ | ⟨c', e, hc'⟩ <;> injection e
 ·subst_vars
  have h1 := ((si.cats k).2 _ hc).2
  have h2 := ((si.cats k').2 _ hc').2
  rw [h1] at h2; exact Option.some.inj h2
end
section
noncomputable def entPR (t : T) (e : Role × Nat × N × Bool) : PR := placeV (A3 t) (chR (A3 t) e.1) e.2.2.1
structure Fine (t : T) : Prop where
 rd : Ready t
 view : ∀ e ∈ (bldT t).ents, isView e.1 = true ∧ ChOk (A3 t) (chR (A3 t) e.1) ∧ (chR (A3 t) e.1).length ≤ 100
 glob : ∀ e ∈ (bldT t).ents, isGlob (entPR t e) = e.2.2.2
 no : ∀ e ∈ (bldT t).ents, isNo (entPR t e) = false
 inj : ∀ e ∈ (bldT t).ents, ∀ e' ∈ (bldT t).ents, e.2.1 = e'.2.1 → entPR t e = entPR t e' → e.2.2.1 = e'.2.2.1
 cnt : ∀ q ∈ enumF (bldT t).fl, ((A3 t).sc q.1).loc + ((A3 t).sc q.1).cel = (q.2.foldl addN []).length + (bldT t).trs.getD q.1 0 + (if (selfPl (A3 t) q.1).isNone then 0 else 1)
 ua : ∀ k, ((A3 t).sc k).ua = true → (4 : N) ∈ ((A3 t).sc k).own
 fll : (bldT t).fl.length ≤ 298
 ol : ∀ o ∈ (bldT t).fl, o.length ≤ 4000
 tl : (bldT t).trs.length = (bldT t).fl.length + 1
theorem enumF_at {fl : List (List N)} {j k : Nat} {o : List N} (h : (enumF fl)[j]? = some (k, o)) : k = j + 1 ∧ fl[j]? = some o := by
 unfold enumF at h
 rw [List.getElem?_map, List.getElem?_zipIdx, Option.map_eq_some_iff] at h
 refine xe12 h fun q h1 h2 => ?_
 rw [Option.map_eq_some_iff] at h1
 refine xe12 h1 fun a h3 eq2 => ?_; obtain rfl := eq2
 injection h2 with h4 h5
 exact ⟨by lia, h5 ▸ h3⟩
theorem idxB_some {b : BId} : ∀ {l : List BId}, b ∈ l → ∃ i, idxB l b = some i
 | c :: r, h => by
  unfold idxB
  by_cases e : c = b
  ·rw [if_pos e]; exact ⟨_, rfl⟩
  ·rw [if_neg e]
   rcases List.mem_cons.mp h with q | h
   ·exact absurd q.symm e
   ·refine xe11 (idxB_some h) fun i hi => ?_; rw [hi]; exact ⟨_, rfl⟩
theorem idxB_get {b : BId} : ∀ {l : List BId} {i : Nat}, idxB l b = some i → l[i]? = some b
 | c :: r, i, h => by
  unfold idxB at h
  by_cases e : c = b
  ·obtain rfl := si ((if_pos e).symm.trans h); rw [e]; rfl
  ·rw [if_neg e, Option.map_eq_some_iff] at h
   refine xe12 h fun j hj eq2 => ?_; obtain rfl := eq2
   exact idxB_get (l := r) hj
theorem capAdd_capd {T : AS} {k : Nat} {b : BId} {e : Bool × Nat} (k' : Nat) : ((capAdd T k b e).sc k').capd = if k' = k then (T.sc k).capd ++ [b] else (T.sc k').capd := by
 unfold capAdd
 rw [sc_setSc Sc.capd rfl k']
 by_cases q : k' = k
 ·rw [if_pos q, q, setSc_self]
 ·rw [if_neg q, setSc_ne q]
theorem capStep_mono {b b' : BId} {q : AS × Option Nat} {k k' : Nat} (h : b' ∈ (q.1.sc k').capd) : b' ∈ ((capStep b q k).1.sc k').capd := by
 unfold capStep
 split
 ·exact h
 ·rw [capAdd_capd]; split
  ·rename_i e; exact List.mem_append_left _ (e ▸ h)
  ·exact h
theorem capStep_self {b : BId} {q : AS × Option Nat} {k : Nat} : b ∈ ((capStep b q k).1.sc k).capd := by
 unfold capStep
 split
 ·rename_i i e; exact List.mem_of_getElem? (idxB_get e)
 ·rw [capAdd_capd, if_pos rfl]; exact List.mem_append_right _ (List.mem_singleton_self _)
theorem capF_mono {b b' : BId} {k' : Nat} : ∀ (ps : List Nat) (q : AS × Option Nat), b' ∈ (q.1.sc k').capd → b' ∈ ((ps.foldl (capStep b) q).1.sc k').capd
 | [], _, h => h
 | p :: ps, q, h => capF_mono ps (capStep b q p) (capStep_mono h)
theorem capU_mono {T : AS} {q : List VE × N} {b' : BId} {k' : Nat} (h : b' ∈ (T.sc k').capd) : b' ∈ ((capU T q).sc k').capd := by
 unfold capU
 split
 ·exact capF_mono _ _ h
 ·exact h
theorem capU_mem {T : AS} {q : List VE × N} {b : BId} {p : Nat} {ps : List Nat} (e : lookV q.1 q.2 = (some b, p :: ps)) : b ∈ ((capU T q).sc p).capd := by
 unfold capU
 rw [e]
 show b ∈ (((p :: ps).reverse.foldl (capStep b) (T, none)).1.sc p).capd
 rw [List.reverse_cons, List.foldl_append]
 exact capStep_self
theorem capUs_mem {b : BId} {p : Nat} {ps : List Nat} {q : List VE × N} (e : lookV q.1 q.2 = (some b, p :: ps)) : ∀ (us : Uses) (T : AS), q ∈ us → b ∈ ((us.foldl capU T).sc p).capd
 | u :: us, T, h => by
  have mono : ∀ (us : Uses) (T : AS), b ∈ (T.sc p).capd → b ∈ ((us.foldl capU T).sc p).capd := fun us => by
   induction us with
   | nil => exact fun U h => h
   | cons u us ih => exact fun T h => ih _ (capU_mono h)
  rcases List.mem_cons.mp h with rfl | h
  ·exact mono us _ (capU_mem e)
  ·exact capUs_mem e us _ h
theorem capU_lc {T : AS} {q : List VE × N} (k : Nat) : ((capU T q).sc k).loc = (T.sc k).loc ∧ ((capU T q).sc k).cel = (T.sc k).cel := by
 have h1 : ∀ (b : BId) (q : AS × Option Nat) (p : Nat), ((capStep b q p).1.sc k).loc = (q.1.sc k).loc ∧ ((capStep b q p).1.sc k).cel = (q.1.sc k).cel := fun b q p => by
  unfold capStep
  split
  ·exact ⟨rfl, rfl⟩
  ·unfold capAdd
   constructor
   ·dsimp only; rw [sc_setSc Sc.loc rfl k, sc_setSc Sc.loc rfl k]
   ·dsimp only; rw [sc_setSc Sc.cel rfl k, sc_setSc Sc.cel rfl k]
 have h2 : ∀ (b : BId) (ps : List Nat) (q : AS × Option Nat), ((ps.foldl (capStep b) q).1.sc k).loc = (q.1.sc k).loc ∧ ((ps.foldl (capStep b) q).1.sc k).cel = (q.1.sc k).cel := fun b ps => by
  induction ps with
  | nil => exact fun U => ⟨rfl, rfl⟩
  | cons p ps ih => exact fun q => ⟨(ih _).1.trans (h1 b q p).1, (ih _).2.trans (h1 b q p).2⟩
 unfold capU
 split
 ·exact h2 _ _ _
 ·exact ⟨rfl, rfl⟩
theorem capUs_lc {k : Nat} : ∀ (us : Uses) (T : AS), ((us.foldl capU T).sc k).loc = (T.sc k).loc ∧ ((us.foldl capU T).sc k).cel = (T.sc k).cel ∧ (us.foldl capU T).pl = T.pl
 | [], _ => ⟨rfl, rfl, rfl⟩
 | u :: us, T => by
  refine xe03 (capUs_lc (k := k) us (capU T u)) fun h1 h2 h3 => ?_
  exact ⟨h1.trans (capU_lc k).1, h2.trans (capU_lc k).2, h3.trans capU_pl⟩
theorem chR_stat {S S' : AS} (h : Stat S S') (ro : Role) : chR S' ro = chR S ro := by
 cases ro with
 | sc k => refine xe07 (h.sc k) fun a U U U b c U => ?_; show VE.sc k (S'.sc k).own (S'.sc k).sf :: (S'.sc k).ch = _; rw [a, b, c]; rfl
 | ct c => show VE.ct c (S'.ct c).nm :: (S'.ct c).ch = _; rw [h.ct]; rfl
 | _ => rfl
structure Gl (t : T) : Prop where
 si : SI (scanT t).1 (scanT t).2 (bldT t)
 out : ∀ b, (∀ k, b ∉ bl (scanT t).1 (scanT t).2 k) → (A2 t).pl b = none
 pl : ∀ k, k < (scanT t).1.n → ∀ b ∈ bl (scanT t).1 (scanT t).2 k, ∃ c i, (A2 t).pl b = some (c, i)
 inj : ∀ k, k < (scanT t).1.n → ∀ b ∈ bl (scanT t).1 (scanT t).2 k, ∀ b' ∈ bl (scanT t).1 (scanT t).2 k, (A2 t).pl b = (A2 t).pl b' → b = b'
 cnt : ∀ k, k < (scanT t).1.n → ((A2 t).sc k).loc + ((A2 t).sc k).cel = (bl (scanT t).1 (scanT t).2 k).length
 a3 : (A3 t).pl = (A2 t).pl ∧ ∀ k, ((A3 t).sc k).loc = ((A2 t).sc k).loc ∧ ((A3 t).sc k).cel = ((A2 t).sc k).cel
theorem gl_T {t : T} (si : SI (scanT t).1 (scanT t).2 (bldT t)) : Gl t := by
 have f := fold_pl (S := (scanT t).1) (us := (scanT t).2) (bl_nodup si _) (bl_dis si _) (List.range (scanT t).1.n) (A1 t) A1_stat List.nodup_range
 refine xe03 f fun f1 f2 f3 => ?_
 have hpl : ∀ b, (A1 t).pl b = none := fun b => by
  have : (A1 t).pl = (scanT t).1.pl := by
   have pf : ∀ {γ : Type} {f : AS → γ → AS}, (∀ S y, (f S y).pl = S.pl) → ∀ (ys : List γ) (S : AS), (ys.foldl f S).pl = S.pl := fun {γ f} h ys => by
    induction ys with
    | nil => exact fun U => rfl
    | cons y ys ih => exact fun S => (ih _).trans (h S y)
   unfold A1 markA
   rw [pf (f := markS) (fun T k => by unfold markS; split; exact pf (f := markP k) (fun U U => rfl) _ _; rfl), pf (f := markU) (fun T q => by unfold markU; split <;> rfl)]
  rw [this]; exact si.pl b
 have hz : ∀ k, ((A1 t).sc k).loc = 0 ∧ ((A1 t).sc k).cel = 0 := fun k => by
  rw [show (A1 t).sc = (scanT t).1.sc from markA_sc]
  refine xe05 ((si.sc k).z) fun U U U z1 z2 => ?_
  exact ⟨z1, z2⟩
 refine ⟨si, fun b hb => (f1 b fun k U => hb k).trans (hpl b), fun k hk => ?_, fun k hk => ?_, fun k hk => ?_, ?_⟩
 ·exact (f3 k (List.mem_range.mpr hk) (hz k).1 (hz k).2).1
 ·exact (f3 k (List.mem_range.mpr hk) (hz k).1 (hz k).2).2.1
 ·exact (f3 k (List.mem_range.mpr hk) (hz k).1 (hz k).2).2.2
 ·exact ⟨(capUs_lc (k := 0) (scanT t).2 (A2 t)).2.2, fun k => by
   refine xe03 (capUs_lc (k := k) (scanT t).2 (A2 t)) fun h1 h2 U => ?_; exact ⟨h1, h2⟩⟩
inductive PC (t : T) (q : List VE × N) : Prop where
 | glob (h : (lookV q.1 q.2).1 = none) (e : placeV (A3 t) q.1 q.2 = .glob q.2)
 | own (b : BId) (c : Bool) (i k : Nat) (h : (lookV q.1 q.2).1 = some b) (e : placeV (A3 t) q.1 q.2 = .own c i) (p : (A2 t).pl b = some (c, i)) (f : fnV q.1 = some k) (hk : k < (scanT t).1.n) (o : Owned (scanT t).1 k b q.2) (m : b ∈ bl (scanT t).1 (scanT t).2 k)
 | up (b : BId) (p i k : Nat) (h : (lookV q.1 q.2).1 = some b) (e : placeV (A3 t) q.1 q.2 = .up i) (g : ((A3 t).sc p).capd[i]? = some b) (f : fnV q.1 = some p) (o : Owned (scanT t).1 k b q.2)
theorem Gl.pc {t : T} (g : Gl t) {q : List VE × N} (hq : q ∈ (scanT t).2) (ok : ChOk (scanT t).1 q.1) : PC t q := by
 cases e : lookV q.1 q.2 with
 | mk o ps =>
  cases o with
  | none => exact .glob (by rw [e]) (by unfold placeV; rw [e])
  | some b =>
   refine xe14 (lookV_own g.si q.1 q.2 b ps ok e) fun k hk ho h1 h2 => ?_
   have hm := own_bl hq e ho
   cases ps with
   | nil =>
    refine xe21 (g.pl k hk b hm) fun c i hp => ?_
    exact .own b c i k (by rw [e]) (by unfold placeV; rw [e]; dsimp only; rw [g.a3.1, hp]) hp (h1 rfl) hk ho hm
   | cons p ps =>
    refine xe11 (idxB_some (capUs_mem e (scanT t).2 (A2 t) hq)) fun i hi => ?_
    have hi : idxB ((A3 t).sc p).capd b = some i := hi
    exact .up b p i k (by rw [e]) (by unfold placeV; rw [e]; dsimp only; rw [hi]) (idxB_get hi) (h2 p ps rfl) ho
theorem fine_T {t : T} (h : okT true t) (hd : dep t ≤ 3) (hs : sz t ≤ 298) : Fine t := by
 have si := si_T h hd hs
 have g := gl_T si
 have st : Stat (scanT t).1 (A3 t) := A3_stat
 have n1 : (scanT t).1.n = 1 + nf t := (scan_n t _ _ _).1
 have n3 := (scan_n t ch0 0 (S0, [])).2.2
 have n3 : (scanT t).2.length ≤ 0 + sz t := n3
 have nft := nfnt_le t
 have hus : ∀ q ∈ (scanT t).2, ∃ e ∈ (bldT t).ents, q = (chR (scanT t).1 e.1, e.2.2.1) := fun q hq => by
  rw [si.us] at hq
  refine xe12 (List.mem_map.mp hq) fun e he eq2 => ?_; obtain rfl := eq2
  exact ⟨e, he, rfl⟩
 have hue : ∀ e ∈ (bldT t).ents, (chR (scanT t).1 e.1, e.2.2.1) ∈ (scanT t).2 := fun e he => by
  rw [si.us]; exact List.mem_map.mpr ⟨e, he, rfl⟩
 have pc : ∀ e ∈ (bldT t).ents, PC t (chR (scanT t).1 e.1, e.2.2.1) := fun e he => g.pc (hue e he) (si.ent e he).ok
 have pe : ∀ e, entPR t e = placeV (A3 t) (chR (scanT t).1 e.1) e.2.2.1 := fun e => by unfold entPR; rw [chR_stat st]
 refine ⟨⟨walk_T t, by lia, fun q hq => ?_, by lia, fun k U => (si.sc k).ps, fun k U => (si.sc k).psl, fun k => ?_, fun q hq b p ps e => ?_⟩, fun e he => ?_, fun e he => ?_, fun e he => ?_, fun e he e' he' hn hp => ?_, fun q hq => ?_, fun k hk => ?_, ?_, fun o ho => ?_, ?_⟩
 ·refine xe12 (hus q hq) fun e he eq2 => ?_; obtain rfl := eq2
  exact ⟨(si.ent e he).ok, (si.ent e he).len⟩
 ·refine xe04 ((si.sc k).z) fun z1 z2 z3 U => ?_; exact ⟨z1, z2, z3⟩
 ·refine xe12 (hus q hq) fun e0 he eq2 => ?_; obtain rfl := eq2
  refine xe13 (lookV_own si _ _ _ _ (si.ent e0 he).ok e) fun k hk ho U => ?_
  exact g.pl k hk b (own_bl hq e ho)
 ·rw [chR_stat st]; exact ⟨(si.ent e he).v, (si.ent e he).ok.stat st, (si.ent e he).len⟩
 ·rw [pe, ← (si.ent e he).g]
  cases pc e he with
  | glob h e1 => rw [e1, h]; rfl
  | own b c i k h e1 _ _ _ _ _ => rw [e1, h]; rfl
  | up b p i k h e1 _ _ _ => rw [e1, h]; rfl
 ·rw [pe]
  cases pc e he with
  | glob h e1 => rw [e1]; rfl
  | own b c i k h e1 _ _ _ _ _ => rw [e1]; rfl
  | up b p i k h e1 _ _ _ => rw [e1]; rfl
 ·rw [pe, pe] at hp
  have ff := (si.ent e he).fn
  have ff' := (si.ent e' he').fn
  cases pc e he with
  | glob h e1 => cases pc e' he' with
   | glob h' e1' => rw [e1, e1'] at hp; injection hp
   | own b c i k h e1' _ _ _ _ _ => rw [e1, e1'] at hp; cases hp
   | up b p i k h e1' _ _ _ => rw [e1, e1'] at hp; cases hp
  | own b c i k h e1 p1 f1 hk o1 m1 => cases pc e' he' with
   | glob h' e1' => rw [e1, e1'] at hp; cases hp
   | own b' c' i' k' h' e1' p1' f1' hk' o1' m1' =>
    rw [e1, e1'] at hp
    injection hp with q1 q2
    have kk : k = k' := by
     have f1 : fnV (chR (scanT t).1 e.1) = some k := f1
     have f1' : fnV (chR (scanT t).1 e'.1) = some k' := f1'
     rw [ff] at f1; rw [ff'] at f1'
     injection f1 with f1; injection f1' with f1'
     rw [← f1, ← f1', hn]
    subst kk
    have := g.inj k hk b m1 b' m1' (by rw [p1, p1', q1, q2])
    subst this
    exact o1.name o1'
   | up b' p' i' k' h' e1' _ _ _ => rw [e1, e1'] at hp; cases hp
  | up b p i k h e1 g1 f1 o1 => cases pc e' he' with
   | glob h' e1' => rw [e1, e1'] at hp; cases hp
   | own b' c i k h e1' _ _ _ _ _ => rw [e1, e1'] at hp; cases hp
   | up b' p' i' k' h' e1' g1' f1' o1' =>
    rw [e1, e1'] at hp
    injection hp with q1
    have kk : p = p' := by
     have f1 : fnV (chR (scanT t).1 e.1) = some p := f1
     have f1' : fnV (chR (scanT t).1 e'.1) = some p' := f1'
     rw [ff] at f1; rw [ff'] at f1'
     injection f1 with f1; injection f1' with f1'
     rw [← f1, ← f1', hn]
    subst kk
    rw [q1, g1'] at g1
    injection g1 with g1
    subst g1
    exact o1.name o1'
 ·refine xe11 (List.getElem?_of_mem hq) fun j hj => ?_
  obtain ⟨k, o⟩ := q
  refine xe02 (enumF_at hj) fun eq0 hj' => ?_; obtain rfl := eq0
  clear hj
  refine xe02 (si.fl.2 j o hj') fun h1 h2 => ?_
  have hjl := (Gs hj').1
  have hk : j + 1 < (scanT t).1.n := by rw [← si.fl.1]; lia
  have hc := g.cnt _ hk
  refine xe02 (g.a3.2 (j + 1)) fun l1 l2 => ?_
  show ((A3 t).sc (j + 1)).loc + ((A3 t).sc (j + 1)).cel = (o.foldl addN []).length + (bldT t).trs.getD (j + 1) 0 + _
  rw [l1, l2, hc, si.trs.2 _ hk, ← h1]
  have hs : (selfs (scanT t).1 (scanT t).2 (j + 1)).length = (if (selfPl (A3 t) (j + 1)).isNone then 0 else 1) := by
   have e1 : selfPl (A3 t) (j + 1) = match ((scanT t).1.sc (j + 1)).sf with
    | none => none
    | some _ => (A2 t).pl (.self (j + 1)) := by unfold selfPl; rw [g.a3.1, (st.sc (j + 1)).2.2.2.2.2.1]; try (cases ((scanT t).1.sc (j + 1)).sf <;> rfl)
   rw [e1]
   cases q : ((scanT t).1.sc (j + 1)).sf with
   | none => unfold selfs; rw [q]; rfl
   | some y =>
    rcases selfs_or (scanT t).1 (scanT t).2 (j + 1) with e | e
    ·refine xe21 (g.pl _ hk (.self (j + 1)) (by unfold bl; rw [e]; exact List.mem_append_right _ (List.mem_append_left _ (List.mem_singleton_self _)))) fun c i ep => ?_
     rw [e]; dsimp only; rw [ep]; rfl
    ·have ep := g.out (.self (j + 1)) fun k' hk' => by
      rcases bl_cases hk' with ⟨x, e'⟩ | ⟨e', e''⟩ | ⟨c, e', _⟩
      ·cases e'
      ·injection e' with e'
       rw [← e', e] at e''; cases e''
      ·cases e'
     rw [e]; dsimp only; rw [ep]; rfl
  unfold bl
  rw [List.length_append, List.length_append, List.length_map, List.length_map, hs]
  lia
 ·refine xe06 (st.sc k) fun U U h3 U h5 U => ?_
  rw [h3] at hk; rw [h5]; exact (si.sc k).ua hk
 ·have := si.fl.1; lia
 ·refine xe11 (List.getElem?_of_mem ho) fun j hj => ?_
  exact (si.fl.2 j o hj).2
 ·rw [si.trs.1, ← si.fl.1]
end
section
noncomputable def entD (t : T) (e : Role × Nat × N × Bool) : PyData := .tuple [if e.2.2.2 then .none else prD (fun U => "") (entPR t e), .bool (constV (chR (A3 t) e.1) e.2.2.1)]
noncomputable def roundD (t : T) : PyData := .list ((bldT t).ents.map (entD t) ++ (enumF (bldT t).fl).map fun q => countsD (A3 t) q.1)
noncomputable def w0 : N → Str := fun x => (["a", "b", "c", "d", "arguments"] : List Str).getD x.val ""
theorem w0_ok : WT w0 := ⟨by decide +kernel, rfl, by decide +kernel⟩
theorem comp_abs {is : List Int} : ∀ c ∈ is.map (fun i => if i < 0 then -i else i), 0 ≤ c := fun c hc => by
 refine xe12 (List.mem_map.mp hc) fun i U eq2 => ?_; obtain rfl := eq2
 split <;> lia
theorem prK_inj {w : N → Str} (hw : WT w) {p q : PR} (h : prK w p = prK w q) (hp : isNo p = false) (hq : isNo q = false) : p = q := by
 have hs : (Str.ofString "global") ≠ plStr true ∧ Str.ofString "global" ≠ plStr false ∧ Str.ofString "global" ≠ "up" ∧ plStr true ≠ plStr false ∧ plStr true ≠ "up" ∧ plStr false ≠ "up" := by decide +kernel
 refine xe06 hs fun a1 a2 a3 a4 a5 a6 => ?_
 have h1 := congrArg Prod.fst h
 have h2 := congrArg Prod.snd h
 cases p with
 | no => exact tf hp
 | glob x => cases q with
  | no => exact tf hq
  | glob y => injection h2 with h2; rw [hw.inj _ _ h2]
  | own d j => cases h2
  | up j => cases h2
 | own c i => cases q with
  | no => exact tf hq
  | glob y => cases h2
  | own d j =>
   injection h2 with h2
   have : i = j := Int.ofNat.inj h2
   subst this
   cases c <;> cases d <;> first | rfl | exact absurd h1 a4 | exact absurd h1 a4.symm
  | up j =>
   cases c
   ·exact absurd h1 a6
   ·exact absurd h1 a5
 | up i => cases q with
  | no => exact tf hq
  | glob y => cases h2
  | own d j =>
   cases d
   ·exact absurd h1.symm a6
   ·exact absurd h1.symm a5
  | up j => injection h2 with h2; rw [Int.ofNat.inj h2]
theorem rIfN {E : EF} {X : FX} {ρ : Loc} {σ : Sto} {κ : KV} {g : Bool} {v : MV} {x : Str} {k : Nat} {p1 p2 : Pos} (hn : ρ.lookup x = some v) (h : κ X ρ (if g = true then .none else v) σ)
  (hk : ∀ X, (E X).kindOf x = some .local) (hd : (x == ("__debug__" : Str)) = false) : cIfe E (.Constant .none k p1) (.Name x p2) κ X ρ g σ := by
 cases g with
 | true => exact if_t (rNone h)
 | false => exact if_f (rLoc hn h hk hd)
theorem prD_ng {w w' : N → Str} {p : PR} (h : isGlob p = false) : prD w p = prD w' p := by
 cases p <;> first | rfl | cases h
theorem rIf01 {E : EF} {X : FX} {ρ : Loc} {σ : Sto} {κ : KV} {b : Bool} {k k' : Nat} {p1 p2 : Pos} (h : κ X ρ (.int (if b = true then 0 else 1)) σ) : cIfe E (.Constant (.int 0) k p1) (.Constant (.int 1) k' p2) κ X ρ b σ := by
 cases b with
 | true => exact if_t (rInt h)
 | false => exact if_f (rInt h)
theorem PV.none {σ : Sto} {p : Option (Bool × Nat)} {v : MV} (h : PV σ p v) : v.isNone = p.isNone := by
 cases p with
 | none => obtain rfl : v = .none := h; rfl
 | some q => refine xe12 h fun t eq1 U => ?_; obtain rfl := eq1; rfl
theorem cnt_eq {a b c d : Nat} {g : Bool} (h : a + b = c + d + (if g then 0 else 1)) : ((a : Int) + b != (c : Int) + d + (if g = true then 0 else 1)) = false := by
 rw [bne_eq_false_iff_eq]
 cases g
 ·simp only [Bool.false_eq_true, if_false] at h ⊢; lia
 ·simp only [if_true] at h ⊢; lia
theorem ne_of {τ : Sto} {a d : Addr} {o : MO} (e : τ a = some o) (n : τ d = none) : a ≠ d := fun q => by rw [q, n] at e; exact nn e
theorem alS {τ : Sto} {o : MO} {κ : MV → Sto → Prop} (k : ∀ d τ', Sub τ τ' → τ' d = some o → τ d = none → κ (.ref d) τ') : ∀ d, τ d = none → κ (.ref d) (τ.set d o) := fun d hd => k d _ (Sub.new hd) (Sto.set_self ..) hd
noncomputable def seqs (σ : Sto) (d : Addr) : Sto := fun a => if a = d then none else match σ a with
 | some (.list xs) => some (.list xs)
 | some (.tuple xs) => some (.tuple xs)
 | _ => none
theorem seqs_at {σ : Sto} {d a : Addr} {o : MO} (h : a ≠ d) (hs : isSeq o = true) (e : σ a = some o) : seqs σ d a = some o := by
 unfold seqs
 rw [if_neg h, e]
 cases o <;> first | rfl | cases hs
theorem seqs_is {σ : Sto} {d a : Addr} {o : MO} (e : seqs σ d a = some o) : a ≠ d ∧ isSeq o = true ∧ σ a = some o := by
 unfold seqs at e
 split at e
 ·exact nn e
 ·rename_i h
  refine ⟨h, ?_⟩
  split at e <;> first | (rename_i q; cases e; exact ⟨rfl, q⟩) | cases e
theorem On.sq {Λ σ : Sto} (h : On Λ σ) : Seqs Λ σ := fun a o hs e => by
 rcases h a o e with z | ⟨D, fs, v, z, _⟩
 ·exact z
 ·subst z; exact ft hs
theorem TR.sq {Λ Λ' : Sto} (s : Seqs Λ Λ') {t : T} {xs : List MV} (h : TR Λ t xs) : TR Λ' t xs := by
 induction h with
 | nil => exact .nil
 | use h h1 h2 _ ih => exact .use (s _ _ rfl h) (s _ _ rfl h1) (s _ _ rfl h2) ih
 | var h h1 h2 _ ih => exact .var (s _ _ rfl h) (s _ _ rfl h1) (s _ _ rfl h2) ih
 | tr h h1 h2 _ _ _ i1 i2 i3 => exact .tr (s _ _ rfl h) (s _ _ rfl h1) (s _ _ rfl h2) i1 i2 i3
 | fn h hq hp h1 h2 _ _ i1 i2 => exact .fn (s _ _ rfl h) (s _ _ rfl hq) (s _ _ rfl hp) (s _ _ rfl h1) (s _ _ rfl h2) i1 i2
theorem cut_raw {σ τ : Sto} {kd b c : Addr} {o' : PySem.Obj} (s : Sub σ τ) (hk : ∃ o, τ kd = some (.raw o)) : Seqs (cut σ b c) (cut (τ.set kd (.raw o')) b c) := fun a o hs e => by
 have e2 := cut_mono s a o e
 have ne : a ≠ kd := by
  rintro rfl
  refine xe11 hk fun o q => ?_
  have := cut_sub _ _ e2
  obtain rfl := si (q.symm.trans this); exact ft hs
 unfold cut at e2 ⊢
 split at e2
 ·exact nn e2
 ·rename_i h; rw [if_neg h]; exact keep_ne ne e2
theorem fold_mapI (f : Int → Int) (l : List Int) : l.foldl (fun s y => s ++ [f y]) [] = l.map f := by
 have : ∀ (l s : List Int), l.foldl (fun s y => s ++ [f y]) s = s ++ l.map f := fun l => by
  induction l with
  | nil => intro s; exact (List.append_nil s).symm
  | cons y l ih => intro s; rw [List.foldl_cons, ih, List.append_assoc]; rfl
 exact this l []
noncomputable def Lay (k : Nat) (d : PyData) : Prop := d.canLay0 = true ∧ d.depth ≤ k
theorem lay_all {k : Nat} : ∀ {ds : List PyData}, (∀ d ∈ ds, Lay k d) → PyData.canLayAll0 ds = true ∧ PyData.depthAll ds ≤ k
 | [], _ => ⟨by simp [PyData.canLayAll0], by simp [PyData.depthAll]⟩
 | d :: ds, h => by
  refine xe02 (h d (.head _)) fun a b => ?_
  refine xe02 (lay_all fun e he => h e (.tail _ he)) fun a' b' => ?_
  simp only [PyData.canLayAll0, PyData.depthAll, a, a']
  exact ⟨rfl, by lia⟩
theorem lay_list {k : Nat} {ds : List PyData} (h : ∀ d ∈ ds, Lay k d) : Lay (k + 1) (.list ds) := by
 refine xe02 (lay_all h) fun a b => ?_
 exact ⟨by simp only [PyData.canLay0, a], by simp only [PyData.depth]; lia⟩
theorem lay_tuple {k : Nat} {ds : List PyData} (h : ∀ d ∈ ds, Lay k d) : Lay (k + 1) (.tuple ds) := by
 refine xe02 (lay_all h) fun a b => ?_
 exact ⟨by simp only [PyData.canLay0, a], by simp only [PyData.depth]; lia⟩
theorem lay_int (k : Nat) (i : Int) : Lay k (.int i) := ⟨by simp [PyData.canLay0], by simp [PyData.depth]⟩
theorem lay_bool (k : Nat) (i : Bool) : Lay k (.bool i) := ⟨by simp [PyData.canLay0], by simp [PyData.depth]⟩
theorem lay_none (k : Nat) : Lay k .none := ⟨by simp [PyData.canLay0], by simp [PyData.depth]⟩
theorem lay_str (k : Nat) {s : Str} (h : PyData.strOk s = true) : Lay k (.str s) := ⟨by simp [PyData.canLay0, h], by simp [PyData.depth]⟩
theorem lay_pl (k : Nat) (p : Option (Bool × Nat)) : Lay (k + 1) (plD p) := by
 cases p with
 | none => exact lay_none _
 | some q =>
  obtain ⟨c, i⟩ := q
  refine lay_tuple fun d hd => ?_
  rcases List.mem_cons.mp hd with rfl | hd
  ·exact lay_str _ (by cases c <;> decide +kernel)
  ·rw [List.mem_singleton.mp hd]; exact lay_int ..
theorem lay_pr (k : Nat) (p : PR) : Lay (k + 1) (prD (fun U => "") p) := by
 refine lay_tuple fun d hd => ?_
 have e : PyData.strOk "" = true := by decide +kernel
 rcases List.mem_cons.mp hd with rfl | hd
 ·refine lay_str _ ?_
  cases p with
  | own c i => exact (show ∀ c, PyData.strOk (plStr c) = true by decide +kernel) c
  | no => exact e
  | glob x => exact (show PyData.strOk "global" = true by decide +kernel)
  | up i => exact (show PyData.strOk "up" = true by decide +kernel)
 ·rw [List.mem_singleton.mp hd]
  cases p with
  | glob x => exact lay_str _ e
  | _ => exact lay_int ..
theorem lay_round (t : T) : Lay 4 (roundD t) := by
 refine lay_list fun d hd => ?_
 rcases List.mem_append.mp hd with hd | hd
 ·refine xe12 (List.mem_map.mp hd) fun e U eq2 => ?_; obtain rfl := eq2
  refine lay_tuple fun d hd => ?_
  rcases List.mem_cons.mp hd with rfl | hd
  ·split
   ·exact lay_none _
   ·exact lay_pr _ _
  ·rw [List.mem_singleton.mp hd]; exact lay_bool ..
 ·refine xe12 (List.mem_map.mp hd) fun q U eq2 => ?_; obtain rfl := eq2
  refine lay_list fun d hd => ?_
  simp only [List.mem_cons, List.not_mem_nil, or_false] at hd
  rcases hd with rfl | rfl | rfl | rfl | rfl | rfl | rfl
  ·exact lay_int ..
  ·exact lay_int ..
  ·refine lay_list fun d hd => ?_
   refine xe12 (List.mem_map.mp hd) fun p U eq2 => ?_; obtain rfl := eq2
   refine lay_tuple fun d hd => ?_
   simp only [List.mem_cons, List.not_mem_nil, or_false] at hd
   rcases hd with rfl | rfl
   ·exact lay_bool ..
   ·exact lay_int ..
  ·refine lay_list fun d hd => ?_
   refine xe12 (List.mem_map.mp hd) fun p U eq2 => ?_; obtain rfl := eq2
   exact lay_pl _ _
  ·exact lay_pl _ _
  ·exact lay_pl _ _
  ·exact lay_bool ..
theorem SLC_take0 {C : Cx} {A : Around} {σ : Sto} {a : Addr} {its : Array Value} {xs : List MV} {k : Nat} {i : Int} {Q : MV → Sto → Prop} (e : C.h₀.IsList a its) (hm : its.toList.map MV.of = xs) (hz : xs.length ≤ 1000000) (hi : i = k) (h : ∀ d, σ d = none → Q (.ref d) (σ.set d (.list (xs.take k)))) : SLC C A (.ref a) .none (.int i) .none σ Q := by
 subst hi
 intro η s ov lv uv sv eo el eu es g value slice
 obtain rfl := MV.of_ref eo
 refine xe13 e fun o ho hc hd => ?_
 have ho := g.st.keep _ _ ho
 refine xe11 (subscripted_any slice (.ref a) (.ref s.heap.objs.size)) fun ops hs => ?_
 have hL : Heap.IsList (s.heap.push { cls := .type "slice", data := .fields #[lv, uv, sv] }) a its := ⟨_, Heap.get?_push_of_some _ ho, hc, hd⟩
 have g' : G C σ η { s with heap := s.heap.push { cls := .type "slice", data := .fields #[lv, uv, sv] } } := g.grow (fun b ob e => Heap.get?_push_of_some _ e) (by rw [Heap.size_push]; exact Nat.le_succ _) rfl rfl
 refine tail_any (s := { s with heap := s.heap.push { cls := .type "slice", data := .fields #[lv, uv, sv] } }) hL.typeIs slot_list_getitem.lookup (wpAny_getItem_list_slice hL (Heap.IsSliceOf.new ..) (part_of el (.inl ⟨rfl, rfl⟩)) (part_of eu (.inr ⟨_, rfl, rfl⟩)) (part_of es (.inl ⟨rfl, rfl⟩)) (by decide) ?_ (le_line (by rw [list_size hm]; lia))) hs
 have hp := pick_take (k := k) hm
 have := new_seq (o := .list (xs.take k)) (ob := { cls := .type "list", data := .seq (slicePick its none (some (k : Int)) none) }) g' rfl rfl (fun h' e' d => show ∃ its n, _ from ⟨_, _, e', hp⟩)
 exact ⟨_, this, h _ (g'.fresh (Nat.le_refl _)).1⟩
theorem bd_0 {n : Nat} : n + 4 * 3 + 12 ≤ n + 199 := by lia
theorem lim_0 {s : Nat} (h : s ≤ 298) : 0 + 1 + 2 * s ≤ 800 := by lia
theorem nat63 {n : Nat} (h : n ≤ 4000) : (n : Int) < 2 ^ 63 := by lia
theorem len_two {vs : List MV} (h : vs.length = 2) : ∃ a a', vs = [a, a'] := by
 cases vs with
 | nil => cases h
 | cons a r => cases r with
  | nil => cases h
  | cons a' r => cases r with
   | nil => exact ⟨a, a', rfl⟩
   | cons => cases h
section
variable {C : Cx} (hK : PK C) {A : Around} {n : Nat} {σ : Sto}
include hK
theorem law_C (b : Bud A (n + 200)) {sl : Addr} {is : List Int} {its : Array Value} (es : C.h₀.IsList sl its) (hm : its.toList.map MV.of = is.map .int) (hl : is.length ≤ 63) {Q : MV → Sto → Prop} (h : ∀ σ', Q (.bool true) σ') : CALLC C A (.ref 355) [.ref sl] σ Q := by
 refine runFn hK (f := 355) ["script"] (fun U => rfl) (fun U => rfl) rfl rfl (ar1 fun U => rfl) rfl rfl b fun X e1 e2 hK b' => ?_
 subst e1 e2
 walk_at "S"
 walk_at "a"
 walk_at "S"
 refine SLC_take0 (k := 7) es hm (by rw [List.length_map]; lia) rfl fun s7 hs7 => ?_
 rw [← List.map_take]
 refine ITR_list (Sto.set_self ..) ⟨rfl, fun acc L2 hacc => ?_⟩
 refine up_fold (ys := is.take 7) (f := fun (s : List Int) i => s ++ [if i < 0 then -i else i]) (P := fun U => True) (R := fun j ρ s => s.length = j → RC _ _ _ _ _ _ _ _ acc (.list s7 j) (X.at_ L2) ρ ((σ.set s7 (.list ((is.take 7).map .int))).set acc (.list (s.map .int)))) ?_ (is.take 7).length 0 _ [] (Nat.zero_add _) trivial ?_ rfl
 ·intro j y ρ s _ hy kc hj
  refine rCL b'.h (keep_new hacc (Sto.set_self ..)) (fun v hv => ?_) (fun hn => by rw [List.getElem?_map, hy] at hn; exact sn hn)
  rw [List.getElem?_map, hy] at hv; obtain rfl := si hv
  walk_at "a"
  walk_at "S"
  refine CALL_abs ?_
  have hlt := (Gs hy).1
  have : (is.take 7).length ≤ 7 := by rw [List.length_take]; exact Nat.min_le_left ..
  refine ⟨s.map .int, Sto.set_self .., by rw [List.length_map]; lia, ?_⟩
  rw [set_set, show s.map MV.int ++ [.int (if y < 0 then -y else y)] = (s ++ [if y < 0 then -y else y]).map .int by rw [List.map_append]; rfl]
  exact kc _ trivial (by rw [List.length_append, hj]; rfl)
 intro ρ' _ hj
 refine rCL b'.h (keep_new hacc (Sto.set_self ..)) (fun v hv => by have := (Gs hv).1; rw [List.length_map] at this; exact absurd this (Nat.lt_irrefl _)) (fun U => ⟨List.forall_mem_nil _, ?_⟩)
 walk_at "S"
 rw [List.drop_zero, fold_mapI]
 have ea : ((σ.set s7 (.list ((is.take 7).map .int))).set acc (.list (((is.take 7).map fun i => if i < 0 then -i else i).map .int))) acc = some (.list (((is.take 7).map fun i => if i < 0 then -i else i).map .int)) := Sto.set_self ..
 have hab := comp_abs (is := is.take 7)
 have hal : ((is.take 7).map fun i => if i < 0 then -i else i).length ≤ 7 := by rw [List.length_map, List.length_take]; exact Nat.min_le_left ..
 have hal2 : (is.take 7).length = ((is.take 7).map fun i => if i < 0 then -i else i).length := (List.length_map ..).symm
 generalize (is.take 7).map (fun i => if i < 0 then -i else i) = as at ea hab hal hal2 ⊢
 generalize (σ.set s7 (.list ((is.take 7).map .int))).set acc (.list (as.map .int)) = τ at ea ⊢
 clear hj hacc hs7
 refine ⟨Nb rfl, alS fun pd τ s2 ep U => ?_⟩
 walk_at "S"
 refine SLC_take0 (k := 7) es hm (by rw [List.length_map]; lia) rfl (alS fun s7 τ s3 e7 U => ?_)
 walk_at "S"
 refine CALL_len_list e7 (by rw [List.length_take]; exact Nat.le_trans (Nat.min_le_left ..) (Nb rfl)) ?_
 walk_at "S"
 refine SLC_drop (s3 _ _ ep) (Nb rfl) rfl (alS fun pe τ s4 ee U => ?_)
 have hk7 : ((is.map MV.int).take 7).length = as.length := by rw [← List.map_take, List.length_map, hal2]
 rw [hk7] at ee
 refine BIN_add_list (s4 _ _ (s3 _ _ (s2 _ _ ea))) ee (by rw [List.length_map, List.length_drop]; exact Nat.le_trans (Nat.add_le_add hal (Nat.sub_le _ _)) (Nb rfl)) (alS fun ca τ s5 ec U => ?_)
 obtain ⟨cs, hcs, hc0, hcl, hcl2⟩ : ∃ cs : List Int, τ ca = some (.list (cs.map .int)) ∧ (∀ c ∈ cs, 0 ≤ c) ∧ 6 ≤ cs.length ∧ cs.length ≤ 13 := by
  refine ⟨as ++ ([0, 42, 66, 33, 19, 20] : List Int).drop as.length, by rw [ec, List.map_append, List.map_drop]; rfl, fun c hc => ?_, ?_, ?_⟩
  ·rcases List.mem_append.mp hc with hc | hc
   ·exact hab c hc
   ·have h6 : ∀ c ∈ ([0, 42, 66, 33, 19, 20] : List Int), 0 ≤ c := by decide
    exact h6 c (List.mem_of_mem_drop hc)
  ·rw [List.length_append, List.length_drop]; show 6 ≤ as.length + (6 - as.length); lia
  ·rw [List.length_append, List.length_drop]; show as.length + (6 - as.length) ≤ 13; lia
 clear s2 s3 s4 s5 ea ep e7 ee ec hab hal hal2 hk7
 walk_at "S"
 refine SLC_drop (k := 1) hcs (by rw [List.length_map]; lia) rfl (alS fun cb τ s1 eb ncb => ?_)
 walk_at "S"
 refine ⟨Nb rfl, alS fun bx τ s2 ex nbx => ?_⟩
 walk_at "S"
 have hbx : BX τ bx cb := ⟨(fun e => by rw [e, eb] at nbx; exact sn nbx), cs.drop 1, 0, ex, by rw [List.map_drop]; exact s2 _ _ eb, fun c hc => hc0 c (List.mem_of_mem_drop hc), Int.le_refl _, by rw [List.length_drop]; lia⟩
 refine (someAll hK (n := n) 3 (by decide) (b'.mono (by lia)) hbx fun so xs t τ2 hext eso htr hok hdp hsz => ?_).call
 have hsz : sz t ≤ 298 := hsz
 have fine := fine_T hok hdp hsz
 walk_at "S"
 have htr2 : TR τ2 t xs := htr.mono fun a o e => (fr_at.mp e).2
 have eso2 := (fr_at.mp eso).2
 have hcb : ca ≠ bx ∧ ca ≠ cb := ⟨(fun e => by have := s1 _ _ hcs; rw [e, nbx] at this; exact nn this), (fun e => by rw [e, ncb] at hcs; exact nn hcs)⟩
 have hcs2 : τ2 ca = some (.list (cs.map .int)) := hext.k _ _ hcb.1 hcb.2 (s2 _ _ (s1 _ _ hcs))
 clear htr eso hext hbx ex eb s1 s2 nbx ncb hcb
 refine ⟨Nat.zero_le _, alS fun td τ s1 etd ntd => ?_⟩
 walk_at "S"
 refine ⟨Nb rfl, alS fun w1 τ s2 ew1 nw1 => ?_⟩
 walk_at "S"
 obtain ⟨c0, cr, rfl⟩ : ∃ c0 cr, cs = c0 :: cr := by cases cs with
  | nil => exact absurd hcl (by decide)
  | cons a r => exact ⟨a, r, rfl⟩
 refine SUB_list (s2 _ _ (s1 _ _ hcs2)) (Int.le_refl _) (by decide) rfl ?_
 walk_at "S"
 refine (words_C hK (n := n) (b'.mono (by lia)) (hc0 c0 (List.mem_cons_self)) fun w2 W2 τ3 hW2 nw2 s3 ew2 => ?_).call
 walk_at "S"
 refine ⟨Nb rfl, alS fun tw τ4 s4 etw U => ?_⟩
 refine ITR_tuple etw ?_
 have W1 : WT w0 := w0_ok
 have sL : Sub (seqs τ4 td) τ4 := fun a o e => (seqs_is e).2.2
 have hΛ : ∀ a o, seqs τ4 td a = some o → a ≠ td ∧ isSeq o = true := fun a o e => ⟨(seqs_is e).1, (seqs_is e).2.1⟩
 have tdn : ∀ a o, τ2 a = some o → a ≠ td := fun a o e q => by rw [q, ntd] at e; exact nn e
 have e4 : Seqs τ2 (seqs τ4 td) := fun a o hs e => seqs_at (tdn a o e) hs (s4 _ _ (s3 _ _ (s2 _ _ (s1 _ _ e))))
 have etr := htr2.sq e4
 have eso4 := e4 _ _ rfl eso2
 have nd1 : w1 ≠ td := fun q => by rw [q, etd] at nw1; exact sn nw1
 have nd2 : w2 ≠ td := fun q => by have := s2 _ _ etd; rw [q, this] at nw2; exact sn nw2
 have ew1' : seqs τ4 td w1 = some (.list (ws w0)) := seqs_at nd1 rfl (s4 _ _ (s3 _ _ ew1))
 have ew2' : seqs τ4 td w2 = some (.list (ws W2)) := seqs_at nd2 rfl (s4 _ _ ew2)
 have etd4 : τ4 td = some (.list []) := s4 _ _ (s3 _ _ (s2 _ _ etd))
 have ndw : tw ≠ td := fun q => by rw [q, etd4] at etw; cases etw
 have etw' : seqs τ4 td tw = some (.tuple [.ref w1, .ref w2]) := seqs_at ndw rfl etw
 generalize seqs τ4 td = Λ at sL hΛ etr eso4 ew1' ew2' etw'
 clear e4 tdn nd1 nd2 ndw htr2 eso2 etw ew1 ew2 s1 s2 s3 s4 etd nw1 nw2 hcs2 hc0 hcl hcl2
 refine up_fold (ys := [(w1, w0), (w2, W2)]) (f := fun (_ : Unit) _ => ()) (P := fun ρ => LK ρ "some" (.ref so) ∧ LK ρ "told" (.ref td)) (R := fun i ρ U => ∀ σ' vs, Sub Λ σ' → σ' td = some (.list vs) → vs.length = i → (∀ v ∈ vs, RD (cut σ' td td) v (roundD t)) → RF _ _ _ _ _ (.tuple tw i) X ρ σ') ?_ 2 0 _ () rfl ⟨by rfl, by rfl⟩ ?_ τ4 [] sL etd4 rfl (List.forall_mem_nil _)
 ·rintro i ⟨pw, w⟩ ρ _ ⟨l1, l2⟩ hi k σ' vs sΛ etd' hvl hvs
  have hw : WT w ∧ Λ pw = some (.list (ws w)) ∧ ([MV.ref w1, MV.ref w2])[i]? = some (.ref pw) := by
   clear k hvl
   cases i with
   | zero => cases hi; exact ⟨W1, ew1', rfl⟩
   | succ i => cases i with
    | zero => cases hi; exact ⟨hW2, ew2', rfl⟩
    | succ i => exact nn hi
  refine xe03 hw fun hw epw hwi => ?_
  have hi2 : i < 2 := (Gs hi).1
  refine rFT b'.h (sΛ _ _ etw') (fun v hv => ?_) (fun hn => by exact sn (hwi.symm.trans hn))
  obtain rfl := si (hwi.symm.trans hv)
  walk_at "a"
  with_reducible refine rSwap (names := [Str.ofString "program", Str.ofString "made"]) b'.h ?_ (by walk_at "=i") (by walk_at "=T") (by walk_at "=s")
  walk_at "S"
  refine ⟨Nat.zero_le _, alS fun p0 τ s1 ep0 np0 => ?_⟩
  walk_at "S"
  refine ⟨Nb rfl, alS fun pp τ s2 epp npp => ?_⟩
  walk_at "S"
  refine Node_new hK (n := n) (b'.mono (by lia)) rfl rfl (alS fun pr τ s3 epr npr => ?_)
  walk_at "S"
  refine ⟨Nat.zero_le _, alS fun m0 τ s4 em0 nm0 => ?_⟩
  walk_at "S"
  refine ⟨Nat.zero_le _, alS fun m1 τ s5 em1 nm1 => ?_⟩
  walk_at "S"
  refine ⟨Nb rfl, alS fun m2 τ s6 em2 nm2 => ?_⟩
  walk_at "S"
  refine ⟨Nb rfl, alS fun md τ s7 emd nmd => ?_⟩
  walk_at "S"
  refine ⟨rfl, Nb rfl, ?_⟩
  show RX _ _ _ _ (setL (setL (setL ρ (Str.ofString "words") (.ref pw)) (Str.ofString "made") (.ref md)) (Str.ofString "program") (.ref pr)) _
  walk_at "S"
  have sA := ((s4.trans s5).trans s6).trans s7
  refine GET_own (sA _ _ epr) (by rfl) (OA_node hK (by decide)) ?_
  walk_at "S"
  refine SUB_list (sA _ _ (s3 _ _ epp)) (Int.le_refl _) (by decide) rfl ?_
  refine METH_extend (sA _ _ (s3 _ _ (s2 _ _ ep0))) ?_
  walk_at "S"
  refine ⟨Nb rfl, alS fun ar τ s8 ear U => ?_⟩
  walk_at "S"
  refine ⟨Nat.zero_le _, alS fun kn τ s9 ekn nkn => ?_⟩
  walk_at "S"
  have s89 := s8.trans s9
  have s79 := s7.trans s89
  have s03 := (s1.trans s2).trans s3
  have offO : ∀ a o, σ' a = some o → (M3.mk m0 m1 m2).off a := fun a o e => ⟨ne_of (s03 _ _ e) nm0, ne_of (s4 _ _ (s03 _ _ e)) nm1, ne_of (s5 _ _ (s4 _ _ (s03 _ _ e))) nm2⟩
  have d01 : m0 ≠ m1 := ne_of em0 nm1
  have d02 : m0 ≠ m2 := ne_of (s5 _ _ em0) nm2
  have d12 : m1 ≠ m2 := ne_of em1 nm2
  have em0' := s79 _ _ (s6 _ _ (s5 _ _ em0))
  have em1' := s79 _ _ (s6 _ _ em1)
  have em2' := s79 _ _ em2
  have epr9 := s89 _ _ (sA _ _ epr)
  have sL9 : Sub Λ τ := fun a o e => s89 _ _ (sA _ _ (s03 _ _ (sΛ _ _ e)))
  have bs : BS (M3.mk m0 m1 m2) ⟨fun U => none, [pr], [], ⟨1, 0, [], [], [0]⟩⟩ τ := ⟨d01, d02, d12, fun U U e => none_ne e, fun U e => absurd rfl e, ⟨[], em0', F2.nil⟩, ⟨[], em1', F2.nil⟩, em2', rfl, rfl, rfl, rfl, by simp, fun a ha => by
   rw [List.append_nil, List.mem_singleton] at ha; subst ha; exact ns epr9⟩
  refine (nodes_C hK (n := n) (Λ := Λ) (w := w) (M := M3.mk m0 m1 m2) (pw := pw) (md := md) (fun a e => by
    cases q : Λ a with
    | none => exact absurd q e
    | some o => exact offO a o (sΛ _ _ q)) (offO _ _ (sΛ _ _ epw)) 3 (G := ⟨fun U => none, [pr], [], ⟨1, 0, [], [], [0]⟩⟩) (b'.mono bd_0) etr sL9 eso4 hdp (okB_of hok).1 (lim_0 hsz) (sL9 _ _ epw) (s9 _ _ ear) (ro := .sc 0) (num := 0) rfl (K := []) ekn ⟨(ne_of (s8 _ _ (s7 _ _ (s6 _ _ (s5 _ _ em0)))) nkn).symm, (ne_of (s8 _ _ (s7 _ _ (s6 _ _ em1))) nkn).symm, (ne_of (s8 _ _ (s7 _ _ em2)) nkn).symm⟩ (s89 _ _ emd) bs (Nat.lt_succ_self _) (by decide) fun d1 ys1 τ1 G r1 hB1 ed1 ast1 => ?_).call
  obtain ⟨Θ, fa, ta, B⟩ := G
  obtain rfl : B = bldT t := hB1
  obtain ⟨kp1, bs1, sΘ1, nΘ1, hf1, ht1⟩ := r1
  walk_at "S"
  have ep09 := s89 _ _ (sA _ _ (s3 _ _ (s2 _ _ ep0)))
  have epp9 := s89 _ _ (sA _ _ (s3 _ _ epp))
  have op0 : (M3.mk m0 m1 m2).off p0 := ⟨ne_of (s3 _ _ (s2 _ _ ep0)) nm0, ne_of (s4 _ _ (s3 _ _ (s2 _ _ ep0))) nm1, ne_of (s5 _ _ (s4 _ _ (s3 _ _ (s2 _ _ ep0)))) nm2⟩
  have opp : (M3.mk m0 m1 m2).off pp := ⟨ne_of (s3 _ _ epp) nm0, ne_of (s4 _ _ (s3 _ _ epp)) nm1, ne_of (s5 _ _ (s4 _ _ (s3 _ _ epp))) nm2⟩
  have opr : (M3.mk m0 m1 m2).off pr := ⟨ne_of epr nm0, ne_of (s4 _ _ epr) nm1, ne_of (s5 _ _ (s4 _ _ epr)) nm2⟩
  have omd : (M3.mk m0 m1 m2).off md := ⟨(ne_of (s6 _ _ (s5 _ _ em0)) nmd).symm, (ne_of (s6 _ _ em1) nmd).symm, (ne_of em2 nmd).symm⟩
  have npp0 : p0 ≠ pp := ne_of ep0 npp
  have npr0 : p0 ≠ pr := ne_of (s2 _ _ ep0) npr
  have nmd0 : p0 ≠ md := ne_of (s6 _ _ (s5 _ _ (s4 _ _ (s3 _ _ (s2 _ _ ep0))))) nmd
  have hθ0 : Θ p0 = none := by
   cases q : Θ p0 with
   | none => rfl
   | some o => have := nΘ1 p0 (ns q) rfl; exact sn (ep09.symm.trans this)
  have il : ys1.length ≤ 1000 := by rw [ast1.len]; have := topN_le t; lia
  refine CALL_extend (kp1 _ _ op0 ep09) (fr_at.mp ed1).2 (Nat.zero_le _) (Nat.le_trans il (Nb rfl)) ?_
  have k0 : ∀ a o, a ≠ p0 → τ1 a = some o → (τ1.set p0 (.list ([] ++ ys1))) a = some o := fun a o h e => keep_ne h e
  have e0 : (τ1.set p0 (.list ([] ++ ys1))) p0 = some (.list ys1) := Sto.set_self ..
  generalize τ1.set p0 (.list ([] ++ ys1)) = τ2 at k0 e0 ⊢
  have kO : ∀ a o, σ' a = some o → τ2 a = some o := fun a o e => k0 _ _ (fun q => by rw [q, np0] at e; exact nn e) (kp1 _ _ (offO a o e) (s89 _ _ (sA _ _ (s03 _ _ e))))
  have ast2 : Ast τ2 w fa ta t 1 0 ys1 := ast1.mono (fun a o e => by
   refine xe02 (fr_at.mp e) fun e1 e2 => ?_
   exact k0 _ _ (fun q => by rw [q, ep09] at e1; exact sn e1) e2) (fun U U h => h) fun U U h => h
  have nd2 : Nd τ2 pr "Program" pp [.ref p0, .bool false] := ⟨⟨_, k0 _ _ npr0.symm (kp1 _ _ opr epr9), rfl, rfl, Nat.le_refl _⟩, k0 _ _ npp0.symm (kp1 _ _ opp epp9)⟩
  have emd2 := k0 _ _ nmd0.symm (kp1 _ _ omd (s89 _ _ emd))
  refine xe12 bs1.e0 fun xs0 x0 f0 => ?_
  refine xe12 bs1.e1 fun xs1 x1 f1 => ?_
  have x0 := k0 _ _ op0.1.symm x0
  have x1 := k0 _ _ op0.2.1.symm x1
  have x2 := k0 _ _ op0.2.2.symm bs1.e2
  have sΘ : Sub Θ τ2 := fun a o e => k0 _ _ (fun q => by rw [q, hθ0] at e; exact nn e) (bs1.s _ _ e)
  have hnd := bs1.nd
  have hlf : fa.length = (bld t (.sc 0) 0 [] ⟨1, 0, [], [], [0]⟩).nf := bs1.lf
  have hlt : ta.length = (bld t (.sc 0) 0 [] ⟨1, 0, [], [], [0]⟩).nt := bs1.lt
  obtain ⟨f1', hf1⟩ : ∃ f, fa = [pr] ++ f := hf1
  have hfa0 : fa[0]? = some pr := by rw [hf1]; rfl
  clear kp1 bs1 sΘ1 nΘ1 ed1 ast1 ht1 bs s1 s2 s3 s4 s5 s6 s7 s8 s9 s89 s79 s03 sA em0 em1 em2 em0' em1' em2' ep0 epp epr ep09 epp9 epr9 nm0 nm1 nm2 nmd np0 npp npr emd ear ekn nkn hf1
  walk_at "S"
  refine (analyse_C hK hw.inj hw.args (n := n) (b'.mono (by lia)) fine.rd nd2 e0 ast2 hfa0 hnd (Nat.le_trans hdp (by decide)) (okB_of hok).2 (by lia) fun rr D μ τ3 rep hDf hDt => ?_).call
  walk_at "S"
  with_reducible refine rSwap (names := [Str.ofString "places", Str.ofString "kept"]) b'.h ?_ (by walk_at "=i") (by walk_at "=T") (by walk_at "=s")
  walk_at "S"
  refine ⟨Nat.zero_le _, alS fun pl τ4 s4 epl npl => ?_⟩
  walk_at "S"
  refine rDict0K fun kd o nkd hkd => ?_
  have npk : pl ≠ kd := ne_of epl nkd
  have rep4 := rep.sub s4
  have okd := Off.new rep4 nkd
  have lkd := rep4.fresh nkd
  have opl := Off.new rep npl
  have lpl := rep.fresh npl
  have rep5 := rep4.sub (Sub.new (o := .raw o) nkd)
  have epl5 := keep_new (x := .raw o) nkd epl
  generalize τ4.set kd (.raw o) = τ5 at hkd rep5 epl5 ⊢
  have etd2 := kO _ _ etd'
  have ntd : pl ≠ td := fun q => by rw [q, etd2] at lpl; exact sn lpl
  clear rep4 s4 epl npl nkd rep
  walk_at "S"
  refine ⟨rfl, Nb rfl, ?_⟩
  show RX _ _ _ _ (setL (setL (setL (setL (setL ρ (Str.ofString "words") (.ref pw)) (Str.ofString "made") (.ref md)) (Str.ofString "program") (.ref pr)) (Str.ofString "kept") (.ref kd)) (Str.ofString "places") (.ref pl)) _
  walk_at "S"
  refine SUB_tuple (rep5.on.tuple emd2) (Int.le_refl _) (by decide) rfl ?_
  refine ITR_list (rep5.on.list x0) ?_
  refine up_fold (ys := (bldT t).ents) (f := fun (_ : Unit) _ => ()) (P := fun ρ => LK ρ "words" (.ref pw) ∧ LK ρ "made" (.ref md) ∧ LK ρ "kept" (.ref kd) ∧ LK ρ "places" (.ref pl) ∧ LK ρ "told" (.ref td) ∧ LK ρ "some" (.ref so))
   (R := fun j ρ U => ∀ σ1 pls mm, Rep w τ2 D μ (A3 t) σ1 → σ1 pl = some (.list pls) → KD X.C σ1 kd mm j → (∀ key v, mm key = some v → ∃ e ∈ (bldT t).ents, key = ((e.2.1 : Int), prK w (entPR t e)) ∧ v = iv e.2.2.1) → RDs (cut σ1 pl td) pls (((bldT t).ents.take j).map (entD t)) → RF _ _ _ _ _ (.list m0 j) X ρ σ1)
   ?_ (bldT t).ents.length 0 _ () (Nat.zero_add _) ⟨by walk_at "lk", by walk_at "lk", by walk_at "lk", by walk_at "lk", by walk_at "lk", by walk_at "lk"⟩ ?_ τ5 [] _ rep5 epl5 hkd (fun U U e => none_ne e) .nil
  ·rintro j ⟨ro, num, x, g⟩ ρ _ ⟨q1, q2, q3, q4, q5, q6⟩ hj kk σ1 pls mm rep1 epl1 hkd1 hinv hrd
   obtain ⟨_, hx0, tt, na, rfl, ett, hna⟩ := f0.get hj
   have hem := List.mem_of_getElem? hj
   refine xe03 (fine.view _ hem) fun hv1 hv2 hv3 => ?_
   have hgl := fine.glob _ hem
   have hno := fine.no _ hem
   have hinj := fine.inj _ hem
   have hjl : j < (bldT t).ents.length := (Gs hj).1
   have hel : (bldT t).ents.length ≤ 600 := by have := (bld_n t (.sc 0) 0 [] ⟨1, 0, [], [], [0]⟩).2.2; unfold bldT; simp only [List.length_nil] at this; lia
   refine rFL b'.h (rep1.on.list x0) (fun v hv => ?_) (fun hn => by exact sn (hx0.symm.trans hn))
   obtain rfl := si (hx0.symm.trans hv)
   refine rAT b'.h (rep1.on.tuple (sΘ _ _ ett)) ?_ (by walk_at "=i") (by walk_at "=o")
   walk_at "a"
   walk_at "a"
   walk_at "a"
   walk_at "a"
   walk_at "a"
   have hD : (na, ro) ∈ D := by
    refine xe03 (bld_n t (.sc 0) 0 [] ⟨1, 0, [], [], [0]⟩) fun n1 n2 U => ?_
    refine xe03 (scan_n t ch0 0 (S0, [])) fun g1 g2 U => ?_
    cases ro with
    | sc k => exact hDf k na (by have := (Gs hna).1; rw [hlf, n1] at this; unfold scanT; rw [g1]; exact this) hna
    | ct c => exact hDt c na (by have := (Gs hna).1; rw [hlt, n2] at this; unfold scanT; rw [g2]; exact this) hna
    | _ => exact nn hna
   walk_at "S"
   refine GET_nscope hK rep1 hD fun v hv => ?_
   refine METH_find hK hw rep1 hv1 hv hv2 hv3 fun f hf kf => ⟨hf, ?_⟩
   walk_at "S"
   refine SUB_list (rep1.on.list (kO _ _ (sΛ _ _ epw))) (Int.natCast_nonneg _) (iv_lt x) (ws_at w x) ?_
   walk_at "S"
   refine kf (n := n) (b'.mono (by lia)) fun u σ2 s2 hu => ?_
   refine xe12 (hu.at_ hno) fun tp eq1 etp => ?_; obtain rfl := eq1
   walk_at "S"
   have rep2 := rep1.sub s2
   have ewd : σ2 pw = some (.list (ws w)) := rep2.on.list (kO _ _ (sΛ _ _ epw))
   refine SUB_list ewd (Int.natCast_nonneg _) (iv_lt x) (ws_at w x) ?_
   walk_at "S"
   refine ⟨Nb rfl, alS fun tg σ3 s3 etg U => ?_⟩
   walk_at "S"
   have hpr : RD σ3 (.ref tp) (prD w (entPR t (ro, num, x, g))) := .tuple (s3 _ _ etp) (.cons (.str _) (.cons (leaf_rd _ _) .nil))
   refine CMP_eq_rd (n := n) hpr (db := .tuple [.str (Str.ofString "global"), .str (w x)]) (.tuple etg (.cons (.str _) (.cons (.str _) .nil))) (pr_lay hw _) (pr_lay hw (.glob x)) (b'.mono (by lia)) (by unfold prD; cases (prK w (entPR t (ro, num, x, g))).2 <;> simp [leafD, PyData.depth, PyData.depthAll]) ?_
   rw [show PyData.eqv (prD w (entPR t (ro, num, x, g))) (.tuple [.str (Str.ofString "global"), .str (w x)]) = g from (glob_eqv w _ _ x).trans hgl]
   walk_at "S"
   refine CMP_ne_bool ?_
   rw [show (g != g) = false from by cases g <;> rfl]
   walk_at "S"
   refine METH_kget (hkd1.keep (s2.trans s3).tup (fun o e => s3 _ _ (s2 _ _ e))) ?_
   walk_at "S"
   refine ⟨Nb rfl, alS fun tk σ4 s4 etk U => ?_⟩
   walk_at "S"
   have s14 := (s2.trans s3).trans s4
   have hkey : KIs σ4 ((num : Int), prK w (entPR t (ro, num, x, g))) tk := ⟨key_lay hw _ _, tp, etk, s4 _ _ (s3 _ _ etp)⟩
   have hkd4 : KD X.C σ4 kd mm j := hkd1.keep s14.tup (fun o e => s14 _ _ e)
   refine CALL_kget (b'.mono (by lia)) (PK.big hK) hkd4 hkey ?_
   rw [show (mm ((num : Int), prK w (entPR t (ro, num, x, g)))).getD (.int ((x.val : Nat) : Int)) = iv x from by
    cases hq : mm ((num : Int), prK w (entPR t (ro, num, x, g))) with
    | none => rfl
    | some v =>
     refine xe13 (hinv _ _ hq) fun e' he' k1 eq3 => ?_; obtain rfl := eq3
     have := hinj e' he' (by have := congrArg Prod.fst k1; exact Int.ofNat.inj this) (prK_inj hw (congrArg Prod.snd k1) hno (fine.no _ he'))
     rw [Option.getD_some]; show iv _ = iv x; rw [← this]]
   walk_at "S"
   rw [show (((x.val : Nat) : Int) != ((x.val : Nat) : Int)) = false from by simp]
   walk_at "S"
   refine ⟨Nb rfl, alS fun tk2 σ5 s5 etk2 U => ?_⟩
   walk_at "S"
   have s15 := s14.trans s5
   have hkey5 : KIs σ5 ((num : Int), prK w (entPR t (ro, num, x, g))) tk2 := ⟨key_lay hw _ _, tp, etk2, s5 _ _ (s4 _ _ (s3 _ _ etp))⟩
   refine SETI_k (b'.mono (by lia)) (by lia) (hkd1.keep s15.tup (fun o e => s15 _ _ e)) hkey5 fun o' hex hkd6 => ?_
   have rep6 := (rep1.sub s15).tmp (o := .raw o') okd lkd (fun y e => by refine xe11 hex fun o q => ?_; obtain rfl := si (q.symm.trans e); rfl)
   have epl6 := keep_ne (x := .raw o') npk (s15 _ _ epl1)
   have etp6 : (σ5.set kd (.raw o')) tp = some (.tuple [.str (prK w (entPR t (ro, num, x, g))).1, leafV (prK w (entPR t (ro, num, x, g))).2]) := keep_ne (fun q => by refine xe11 hex fun o q' => ?_; have := s5 _ _ (s4 _ _ (s3 _ _ etp)); rw [q, q'] at this; cases this) (s5 _ _ (s4 _ _ (s3 _ _ etp)))
   have hrd6 : RDs (cut (σ5.set kd (.raw o')) pl td) pls (((bldT t).ents.take j).map (entD t)) := (RD_sq (cut_raw s15 hex)).2 hrd
   generalize σ5.set kd (.raw o') = σ6 at hkd6 rep6 epl6 etp6 hrd6 ⊢
   clear hkd1 hkd4 hkey hkey5 hpr hex s15 s14 s5 s4 s3 s2 etk etk2 etg hu rep2 rep1 hrd epl1 ewd
   walk_at "S"
   refine METH_append epl6 ?_
   walk_at "S"
   refine rIfN (by walk_at "look") ?_ (by walk_at "=l") (by walk_at "=f")
   walk_at "S"
   refine GET_nscope hK rep6 hD fun v hv => ?_
   refine METH_const hK hw rep6 hv1 hv hv2 hv3 fun f hf kf => ⟨hf, ?_⟩
   walk_at "S"
   refine SUB_list (rep6.on.list (kO _ _ (sΛ _ _ epw))) (Int.natCast_nonneg _) (iv_lt x) (ws_at w x) ?_
   walk_at "S"
   refine kf (n := n) (b'.mono (by lia)) fun σ7 s7 => ?_
   walk_at "S"
   refine ⟨Nb rfl, alS fun tn σ8 s8 etn ntn => ?_⟩
   walk_at "S"
   have s78 := s7.trans s8
   have hpl : pls.length ≤ 600 := by have := hrd6.len; rw [List.length_map, List.length_take] at this; lia
   refine CALL_append (s78 _ _ epl6) (Nat.le_trans hpl (Nb rfl)) ?_
   have rep9 := (rep6.sub s78).tmp (o := .list (pls ++ [.ref tn])) opl lpl (fun y e => by obtain rfl := si ((s78 _ _ epl6).symm.trans e); rfl)
   have hkd9 : KD X.C (σ8.set pl (.list (pls ++ [.ref tn]))) kd _ (j + 1) := (hkd6.keep s78.tup (fun o e => s78 _ _ e)).keep (Tup.set fun y e => by obtain rfl := si ((s78 _ _ epl6).symm.trans e); rfl) (fun o e => keep_ne npk.symm e)
   have hrd9 : RDs (cut (σ8.set pl (.list (pls ++ [.ref tn]))) pl td) (pls ++ [.ref tn]) (((bldT t).ents.take (j + 1)).map (entD t)) := by
    rw [cut_set (.inl rfl), List.take_add_one, hj, List.map_append]
    refine ((RD_up (cut_mono s78)).2 hrd6).app (.cons ?_ .nil)
    have etd8 := s78 _ _ (rep6.on.list etd2)
    have n1 : tn ≠ pl := fun q => by have := s78 _ _ epl6; rw [← q, etn] at this; cases this
    have n2 : tn ≠ td := fun q => by rw [← q, etn] at etd8; cases etd8
    have n3 : tp ≠ pl := fun q => by rw [q, epl6] at etp6; cases etp6
    have n4 : tp ≠ td := fun q => by have := s78 _ _ etp6; rw [q, etd8] at this; cases this
    refine .tuple (cut_at n1 n2 etn) (.cons ?_ (.cons (.bool _) .nil))
    cases g with
    | true => exact .none
    | false =>
     show RD _ (.ref tp) (prD (fun U => "") (entPR t (ro, num, x, false)))
     rw [prD_ng (w' := w) hgl]
     exact .tuple (cut_at n3 n4 (s78 _ _ etp6)) (.cons (.str _) (.cons (leaf_rd _ _) .nil))
   walk_at "S"
   refine kk _ ⟨by walk_at "lk", by walk_at "lk", by walk_at "lk", by walk_at "lk", by walk_at "lk", by walk_at "lk"⟩ _ _ _ rep9 (Sto.set_self ..) hkd9 (fun key v hq => ?_) hrd9
   dsimp only at hq
   split at hq
   ·rename_i ek; obtain rfl := si hq; exact ⟨_, hem, ek, rfl⟩
   ·exact hinv _ _ hq
  ·rintro ρ ⟨q1, q2, q3, q4, q5, q6⟩ σ1 pls mm rep1 epl1 hkd1 - hrd
   have hel : (bldT t).ents.length ≤ 600 := by have := (bld_n t (.sc 0) 0 [] ⟨1, 0, [], [], [0]⟩).2.2; unfold bldT; simp only [List.length_nil] at this; lia
   refine rFL b'.h (rep1.on.list x0) (fun v hv => by have := (Gs hv).1; rw [← f0.1] at this; exact absurd this (Nat.lt_irrefl _)) (fun U => ?_)
   rw [List.take_length] at hrd
   walk_at "S"
   refine SUB_tuple (rep1.on.tuple emd2) (by decide) (by decide) rfl ?_
   walk_at "S"
   refine CALL_enumerate (rep1.on.list x1) fun d it hd hit hne => ?_
   refine ⟨d, it, m1, σ1, rfl, rfl, hd, hit, hne, ?_⟩
   clear hkd1 hd hit hne
   refine up_fold (ys := enumF (bldT t).fl) (f := fun (_ : Unit) _ => ()) (P := fun ρ => LK ρ "made" (.ref md) ∧ LK ρ "places" (.ref pl) ∧ LK ρ "told" (.ref td) ∧ LK ρ "some" (.ref so))
    (R := fun j ρ U => ∀ σ1 pls, Rep w τ2 D μ (A3 t) σ1 → σ1 pl = some (.list pls) → RDs (cut σ1 pl td) pls ((bldT t).ents.map (entD t) ++ ((enumF (bldT t).fl).take j).map fun q => countsD (A3 t) q.1) → RN _ _ _ _ _ _ _ m1 j X ρ σ1)
    ?_ (enumF (bldT t).fl).length 0 _ () (Nat.zero_add _) ⟨q2, q4, q5, q6⟩ ?_ σ1 pls rep1 epl1 (by rw [List.take_zero, List.map_nil, List.append_nil]; exact hrd)
   ·rintro j ⟨k', own⟩ ρ _ ⟨q1, q2, q3, q4⟩ hj kk σ1 pls rep1 epl1 hrd
    obtain ⟨_, hx1, tt, na, p, rfl, ett, eown, hna⟩ := f1.get hj
    have hem := List.mem_of_getElem? hj
    have hcnt := fine.cnt _ hem
    have hfl : (enumF (bldT t).fl).length ≤ 298 := by rw [enumF_len]; exact fine.fll
    have hjl : j < (enumF (bldT t).fl).length := (Gs hj).1
    refine xe02 (enumF_at hj) fun hjk hof => ?_
    refine rFE b'.h (rep1.on.list x1) (fun v hv => ?_) (fun hn => by exact sn (hx1.symm.trans hn)) (by walk_at "=2") (by walk_at "=o")
    obtain rfl := si (hx1.symm.trans hv)
    walk_at "a"
    refine rMC (rAT b'.h (rep1.on.tuple (sΘ _ _ ett)) ?_ (by walk_at "=i") (by walk_at "=o")) (by walk_at "=i")
    repeat walk_at "a"
    have hD : (na, Role.sc k') ∈ D := by
     refine xe03 (bld_n t (.sc 0) 0 [] ⟨1, 0, [], [], [0]⟩) fun n1 n2 U => ?_
     refine xe03 (scan_n t ch0 0 (S0, [])) fun g1 g2 U => ?_
     exact hDf k' na (by have := (Gs hna).1; rw [hlf, n1] at this; unfold scanT; rw [g1]; exact this) hna
    with_reducible refine rSwap (names := [Str.ofString "scope", Str.ofString "extra"]) b'.h ?_ (by walk_at "=i") (by walk_at "=T") (by walk_at "=s")
    walk_at "S"
    refine GET_nscope hK rep1 hD fun v hv => ?_
    refine xe12 hv fun sa hsa eq2 => ?_; obtain rfl := eq2
    walk_at "S"
    refine SUB_tuple (rep1.on.tuple emd2) (by decide) (by decide) rfl ?_
    walk_at "S"
    have hxt : ((bldT t).trs.map fun (n : Nat) => MV.int n)[((j : Int) + 1).toNat]? = some (.int (((bldT t).trs.getD k' 0 : Nat) : Int)) := by
     rw [show ((j : Int) + 1).toNat = j + 1 by lia, List.getElem?_map, hjk, List.getD_eq_getElem?_getD]
     have : j + 1 < (bldT t).trs.length := by rw [fine.tl]; rw [enumF_len] at hjl; lia
     rw [List.getElem?_eq_getElem this]
     rfl
    refine SUB_list (rep1.on.list x2) (Int.natCast_nonneg (j + 1)) (nat63 (n := j + 1) (by lia)) hxt ?_
    walk_at "S"
    refine ⟨rfl, Nb rfl, ?_⟩
    show RX _ _ _ _ (setL (setL (setL (setL (setL ρ (Str.ofString "at") (.int (j : Int))) (Str.ofString "node") (.ref na)) (Str.ofString "own") (.ref p)) (Str.ofString "extra") (.int (((bldT t).trs.getD k' 0 : Nat) : Int))) (Str.ofString "scope") (.ref sa)) _
    walk_at "S"
    refine GET_self hK rep1 hsa (P := fun v => v = .int ((A3 t).sc k').loc) (by decide) (fun fs g => ⟨_, g.loc, rfl⟩) fun v e => ?_
    subst e
    walk_at "S"
    refine GET_self hK rep1 hsa (P := fun v => v = .int ((A3 t).sc k').cel) (by decide) (fun fs g => ⟨_, g.cel, rfl⟩) fun v e => ?_
    subst e
    walk_at "S"
    have eown2 : σ1 p = some (.list ((kv own).map .int)) := by rw [← kv_map]; exact rep1.on.list (sΘ _ _ eown)
    refine CALL_setI b'.h eown2 (by rw [show (kv own).length = own.length by unfold kv; rw [List.length_map]]; exact fine.ol _ (List.mem_of_getElem? hof)) fun ds os hds hos => ?_
    rw [firstMet_kv] at hos
    have rep2 := rep1.sub (Sub.new (o := os) hds)
    have epl2 := keep_new (x := os) hds epl1
    have hrd2 : RDs (cut (σ1.set ds os) pl td) pls _ := (RD_up (cut_mono (Sub.new hds))).2 hrd
    walk_at "S"
    refine CALL_lenS (Sto.set_self ..) hos ?_
    generalize σ1.set ds os = σ2 at rep2 epl2 hrd2 ⊢
    walk_at "S"
    refine GET_selfp hK (n := n) (b'.mono (by lia)) rep2 hsa fun u hu => ?_
    walk_at "S"
    refine rIf01 ?_
    rw [show u.isNone = (selfPl (A3 t) k').isNone from PV.none hu]
    walk_at "S"
    rw [show ((((A3 t).sc k').loc : Int) + ((A3 t).sc k').cel != ((own.foldl addN []).length : Int) + ((bldT t).trs.getD k' 0 : Nat) + (if (selfPl (A3 t) k').isNone = true then 0 else 1)) = false from cnt_eq hcnt]
    walk_at "S"
    refine METH_append epl2 ?_
    walk_at "S"
    refine (counts_C hK (n := n) (b'.mono (by lia)) hw.args rep2 hsa (fine.ua k') opl (fun r e => by have := rep2.off r _ e; exact sn (etd2.symm.trans this)) epl2 (rep2.on.list etd2) fun cd σ3 s3 hcd => ?_).call
    walk_at "S"
    have hpl : pls.length ≤ 1200 := by have := hrd2.len; rw [List.length_append, List.length_map, List.length_map, List.length_take] at this; lia
    refine CALL_append (s3 _ _ epl2) (Nat.le_trans hpl (Nb rfl)) ?_
    have rep4 := (rep2.sub s3).tmp (o := .list (pls ++ [.ref cd])) opl lpl (fun y e => by obtain rfl := si ((s3 _ _ epl2).symm.trans e); rfl)
    have hrd4 : RDs (cut (σ3.set pl (.list (pls ++ [.ref cd]))) pl td) (pls ++ [.ref cd]) ((bldT t).ents.map (entD t) ++ ((enumF (bldT t).fl).take (j + 1)).map fun q => countsD (A3 t) q.1) := by
     rw [cut_set (.inl rfl), List.take_add_one, hj, List.map_append, ← List.append_assoc]
     exact ((RD_up (cut_mono s3)).2 hrd2).app (.cons hcd .nil)
    walk_at "S"
    exact kk _ ⟨by walk_at "lk", by walk_at "lk", by walk_at "lk", by walk_at "lk"⟩ _ _ rep4 (Sto.set_self ..) hrd4
   ·rintro ρ ⟨q1, q2, q3, q4⟩ σ1 pls rep1 epl1 hrd
    refine rFE b'.h (rep1.on.list x1) (fun v hv => by have := (Gs hv).1; rw [← f1.1] at this; exact absurd this (Nat.lt_irrefl _)) (fun U => ?_) (by walk_at "=2") (by walk_at "=o")
    rw [List.take_length] at hrd
    walk_at "S"
    have etd1 := rep1.on.list etd2
    refine METH_append etd1 ?_
    walk_at "S"
    refine CALL_append etd1 (by lia) ?_
    walk_at "S"
    refine k _ ⟨by walk_at "lk", by walk_at "lk"⟩ _ (vs ++ [.ref pl]) (fun a o e => ?_) (Sto.set_self ..) (by rw [List.length_append, hvl]; rfl) fun v hv => ?_
    ·refine xe02 (hΛ _ _ e) fun h1 h2 => ?_
     exact keep_ne h1 (rep1.on.sq _ _ h2 (kO _ _ (sΛ _ _ e)))
    ·rw [cut_set (.inl rfl)]
     rcases List.mem_append.mp hv with hv | hv
     ·refine (RD_sq (σ := cut σ' td td) fun a o hs e => ?_).1 (hvs _ hv)
      have h1 : a ≠ td := fun q => by subst q; unfold cut at e; exact nn ((if_pos (.inl rfl)).symm.trans e)
      exact cut_at h1 h1 (rep1.on.sq _ _ hs (kO _ _ (cut_sub _ _ e)))
     ·rw [List.mem_singleton.mp hv]
      refine .list (cut_at ntd ntd epl1) ((RD_up (σ := cut σ1 pl td) fun a o e => ?_).2 hrd)
      have h1 : a ≠ td := fun q => by subst q; unfold cut at e; exact nn ((if_pos (.inr rfl)).symm.trans e)
      exact cut_at h1 h1 (cut_sub _ _ e)
 ·intro ρ ⟨l1, l2⟩ σ' vs sΛ etd' hvl hvs
  refine rFT b'.h (sΛ _ _ etw') (fun v hv => by exact nn hv) (fun U => ?_)
  refine xe21 (len_two hvl) fun a a' eq2 => ?_; obtain rfl := eq2
  walk_at "S"
  refine SUB_list etd' (Int.le_refl _) (by decide) rfl ?_
  walk_at "S"
  refine SUB_list etd' (by decide) (by decide) rfl ?_
  walk_at "S"
  refine xe02 (lay_round t) fun y1 y2 => ?_
  refine CMP_eq_rd (n := n) ((RD_up cut_sub).1 (hvs _ (.head _))) ((RD_up cut_sub).1 (hvs _ (.tail _ (.head _)))) y1 y1 (b'.mono (by lia)) (Nat.le_trans y2 (by decide)) ?_
  rw [PySem.SeqAt.eqv_refl _ y1]
  exact h _
end
end
section
noncomputable def wI (is : List Int) : List WData := is.map .int
theorem items_int : ∀ {ds : List WData}, WShape.hasItems [] ds .int = true → ∃ is : List Int, ds = wI is
 | [], _ => ⟨[], rfl⟩
 | d :: ds, h => by
  refine xe02 (Bool.and_eq_true_iff.mp (show (WShape.has [] d .int && WShape.hasItems [] ds .int) = true from h)) fun h1 h2 => ?_
  refine xe11 (items_int h2) fun is eq1 => ?_; obtain rfl := eq1
  cases d <;> first | exact ⟨_ :: is, rfl⟩ | exact Bool.noConfusion h1
theorem reads_ints {R : WRecords} {cl : Str → Option Addr} {h : Heap} : ∀ {is : List Int} {vs : List Value} {as : List Addr}, ReadsAllW R cl h vs (wI is) as → vs.map MV.of = is.map .int := by
 intro is
 induction is with
 | nil => intro vs as r; rw [(readsAllW_nil_inv r).1]; rfl
 | cons i is ih =>
  intro vs as r
  refine xe44 (readsAllW_cons_inv r) fun v vs' a1 a2 eq4 U r1 r2 => ?_; obtain rfl := eq4
  refine xe12 (readsW_int_inv r1) fun t eq1 U => ?_; obtain rfl := eq1
  rw [List.map_cons, ih r2]; rfl
noncomputable def lessB (b : Bool) : Bool :=
 match (match (match (some b).map WData.bool with
  | some (.bool b) => some (WData.bool (!b))
  | _ => none) with
  | some (.bool false) => some (WData.bool false)
  | some (.bool true) => (match (some (WData.bool true)) with
   | some (.bool x) => some (WData.bool x)
   | _ => none)
  | _ => none) with
 | some (.bool true) => true
 | _ => false
theorem less63 (is : List Int) (h : WTm.holds [] (.and (.not (.lt (.lit (.int 63)) (.len (.arg 0)))) (.lit (.bool true))) { args := [.list (wI is)] } = true) : is.length ≤ 63 := by
 have h : lessB (decide ((63 : Int) < ((wI is).length : Int))) = true := h
 have e : (wI is).length = is.length := List.length_map ..
 by_cases q : (63 : Int) < ((wI is).length : Int)
 ·rw [decide_eq_true q] at h; exact ft h
 ·lia
theorem pre_args {args : List WData} (h : PySem.Challenge.rw_sz0078_01.row.toRowW.claim.pre args = true) : ∃ is : List Int, args = [.list (wI is)] ∧ is.length ≤ 63 := by
 refine xe02 (Bool.and_eq_true_iff.mp h) fun h1 h2 => ?_
 have h1 : WShape.hasAll [] args [.list .int] = true := h1
 cases args with
 | nil => exact Bool.noConfusion h1
 | cons d r => cases r with
  | cons d2 r => exact Bool.noConfusion (Bool.and_eq_true_iff.mp h1).2
  | nil =>
   have h1 : WShape.has [] d (.list .int) = true := (Bool.and_eq_true_iff.mp h1).1
   cases d with
   | list ds =>
    refine xe11 (items_int ((Bool.or_false _).symm.trans (show (WShape.hasItems [] ds .int || false) = true from h1))) fun is eq1 => ?_; obtain rfl := eq1
    exact ⟨is, rfl, less63 is h2⟩
   | _ => exact Bool.noConfusion h1
end
section
theorem law_in {w : World} {s₀ s₁ : Shared} {mg mb : Str → Option Value} (Gr : Ground qq lo RR.toRowW.records (XL qq []) w s₀ mg mb s₁.heap) (Y : HH.says w s₁.heap) {fa : Addr} (hmg : mg "law" = some (.ref fa)) (hg : s₁.gens = #[]) {args : List WData} {vals : List Value} {as : List Addr}
  (hpre : RR.toRowW.claim.pre args = true) (hrd : ReadsAllW RR.toRowW.records (classAt s₀.heap) s₁.heap vals args as) : wpAny (model PP w) callerA (PySem.call (.ref fa) vals) (fun v s' => GoodWG RR.toRowW.claim (classAt s₀.heap) (ExcName.means s₀.heap) args s₁ (.ok (.ret v)) s')
   (fun e s' => GoodWG RR.toRowW.claim (classAt s₀.heap) (ExcName.means s₀.heap) args s₁ (.error e) s') s₁ := by
 obtain ⟨is, rfl, hl⟩ := pre_args hpre
 obtain ⟨a, its, rfl, e, hr⟩ : ∃ a its, vals = [.ref a] ∧ s₁.heap.IsList a its ∧ its.toList.map MV.of = is.map .int := by
  obtain ⟨v, vs', a1, a2, rfl, _, r1, r2⟩ := readsAllW_cons_inv hrd
  obtain ⟨rfl, _⟩ := readsAllW_nil_inv r2
  obtain ⟨l, o, its, n, ai, rfl, e, c, d, r, _⟩ := readsW_list_open r1
  exact ⟨l, its, rfl, ⟨o, e, c, n, d⟩, reads_ints r⟩
 have X := kIn_of Y
 have T := Gr.T
 have e355 : nsIn (KF w.params) mainGlobals "law" = some (some (.ref 355)) := by rfl
 have hfa := mg_of X T.g e355
 rw [hmg] at hfa
 injection hfa with hfa
 injection hfa with hfa
 subst hfa
 have g0 : Mine.G (⟨PP, w, s₁.heap, KF w.params, mg, mb, qq, looseW qq lo, ExcName.means s₀.heap, #[], s₁.os, X, T⟩ : Cx) (fun U => none) (fun U => none) s₁ :=
  ⟨fun U U e => none_ne e, ⟨fun U U e => e, Nat.le_refl _, fun a => a, fun U U e => none_ne e, fun U U U e => none_ne e⟩, hg, rfl⟩
 have hb : Bud callerA (0 + 200) := ⟨by decide, by decide, rfl⟩
 have hc := (law_C (C := ⟨PP, w, s₁.heap, KF w.params, mg, mb, qq, looseW qq lo, ExcName.means s₀.heap, #[], s₁.os, X, T⟩) rfl (A := callerA) (n := 0) (σ := fun U => none) hb e hr hl (Q := fun v U => v = .bool true) fun U => rfl).call (.ref 355) [.ref a] rfl rfl _ s₁ g0
 refine wpAny_mono hc (fun v s' hh => ?_) fun U U x => x.elim
 obtain ⟨σ', g', hv⟩ := hh
 obtain rfl := MV.of_bool hv
 refine ⟨.inl ⟨.bool true, .bool true, [], rfl, fun U => rfl, .bool true, ?_, fun U => ⟨List.nodup_nil, List.forall_mem_nil _⟩⟩, .of_keep g'.st.keep, g'.os, .of_eq g'.gens⟩
 show (WShape.has [] (.bool true) .bool && WTm.holds [] (.eq .res (.lit (.bool true))) { args := [.list (wI is)], res := some (.bool true), after := [.list (wI is)] }) = true
 kernel_rfl
theorem hold1 : PySem.Challenge.rw_sz0078_01.Holds := by
 refine holds_law wsaid fun said => ?_
 refine PySem.W.holds_open (q := qq) (loose := lo) (d := dkL.1) (kwd := dkL.2) (Xt := fun s => xlAt qq [] s && recOk (RowW.records RR.toRowW) s) (XP := XL qq []) (Yf := Hook.obs HH) (Ya := Hook.val HH) (YP := Hook.says HH) (N := 4688) left0x (Hook.of HH) (Hook.keeps HH) (fun s e => xl_of s (Bool.and_eq_true_iff.mp e).1) XL.keeps dk_of dk_p dk_k (fun s e => recFacts_of (Bool.and_eq_true_iff.mp e).2) (by rfl) (by assumption) (by decide +kernel) ⟨rfl, rfl, rfl, rfl, rfl, by decide +kernel⟩ ?hw ?hc
 case hw => w_witness2
 intro w s₀ s₁ mg mb Gr Y fa o pm cd doc dV kV ho hd hcd hD hmg hg args vals as hpre hlay hrd hwl hlo
 rw [dk_n] at hmg
 exact law_in Gr Y hmg hg hpre hrd
end
end Mine
theorem PySem.Challenge.cw_sz0078_01_holds : PySem.Challenge.rw_sz0078_01.Holds :=
 Mine.hold1
