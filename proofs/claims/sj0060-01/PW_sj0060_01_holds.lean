import PyProof.Rows.All
import Wide.All
import OpenK.AllK
import Wide.FinOn
import Lean
import PySem.Challenge.RW_sj0060_01
open PySem PySem.W PySem.Spec PySem.Calls PyProof.Rows
set_option Elab.async false
set_option maxRecDepth 100000
set_option linter.unusedVariables false
set_option genInjectivity false
set_option genSizeOfSpec false
set_option compiler.extract_closed false
set_option maxHeartbeats 4000000
namespace Mine

/-! the program's defs, by their places in its text -/
noncomputable def nth (i : Nat) : Stmt := PySem.Challenge.pw_sj0060_01.main.body.getD i (.Pass ⟨0, 0, 0, 0⟩)
noncomputable def bodyOf : Stmt → List Stmt
  | .FunctionDef _ _ b _ _ _ _ _ _ _ => b
  | .ClassDef _ _ _ b _ _ _ _ _ _ _ => b
  | _ => []
noncomputable def scOf : Stmt → Scope
  | .FunctionDef _ _ _ _ _ _ s _ _ _ => s
  | _ => ⟨.function, [], false, false, []⟩
noncomputable def argsOf : Stmt → Arguments
  | .FunctionDef _ a _ _ _ _ _ _ _ _ => a
  | _ => ⟨[], [], none, [], [], none, []⟩
noncomputable def sub (i j : Nat) : Stmt := (bodyOf (nth i)).getD j (.Pass ⟨0, 0, 0, 0⟩)
end Mine
namespace Mine
noncomputable def tree0 : List Obj → BT → Nat → BT
  | [], t, _ => t
  | o :: l, t, n => tree0 l (t.ins n o) (n + 1)
/-! the head: what law needs of the heap behind the top -/
noncomputable abbrev S (x : String) : PySem.Str := PySem.Str.ofString x
noncomputable abbrev E (P : Params) (x : String) (t : Tok) (v : Value) : DictEntry := ⟨PyData.keyHash P (S x), .str (S x) t, v⟩
noncomputable abbrev C (n q : String) (t : Tok) (ln ac fl : Int) (r : Addr) (i : Int) (r1 r3 r4 r5 : Addr) (j : Int) (t18 : Tok) : Obj :=
  { cls := .type "code", data := .fields #[.str (S n) t, .str (S q) (t + 1), .str (S "/claim/cut.py") (t + 2), .int ln 0, .int ac 0, .int 0 0, .int 0 0, .int fl 0, .ref r, .bool true, .int i 0, .ref r1, .none, .ref r3, .ref r4, .ref r5, .int j 0, .int ln 0, .str (S "/claim/cut.py") t18] }
noncomputable abbrev G (n q : String) (st : Stmt) (pm : Value) (cd : Addr) : Obj :=
  { cls := .type "function", data := .func (fnOf (S n) (S q) (argsOf st) (bodyOf st) (scOf st) .none .none .none pm none (.ref cd) .none) }
noncomputable def heap (P : Params) : Frag := [
  (3, { cls := .type "dict", data := .dict #[E P "__name__" 165 (.str (S "law_sj0060_01") 848), E P "__doc__" 166 (.none), E P "__package__" 167 (.none), E P "__loader__" 168 (.builtin "__main__.__loader__#opaque"), E P "__spec__" 169 (.none), E P "__annotations__" 170 (.ref 6), E P "__builtins__" 171 (.ref 4), E P "__file__" 173 (.str (S "/claim/cut.py") 172), E P "__cached__" 174 (.none), E P "Report" 230 (.ref 38), E P "NameTable" 260 (.ref 59), E P "find" 268 (.ref 70), E P "find_routine" 277 (.ref 77), E P "add_name" 289 (.ref 84), E P "add_label" 301 (.ref 91), E P "add_port" 316 (.ref 98), E P "add_signal" 330 (.ref 105), E P "declare_item" 345 (.ref 112), E P "check_expr" 355 (.ref 119), E P "check_each" 365 (.ref 126), E P "check_optional" 374 (.ref 133), E P "check_range" 383 (.ref 140), E P "check_path" 394 (.ref 147), E P "check_call" 404 (.ref 154), E P "check_declaration" 415 (.ref 161), E P "check_target" 428 (.ref 169), E P "check_target_name" 441 (.ref 177), E P "declare_labels" 455 (.ref 184), E P "check_stmt" 469 (.ref 191), E P "check_block" 482 (.ref 198), E P "check_case" 495 (.ref 205), E P "check_control" 504 (.ref 212), E P "check_events" 515 (.ref 219), E P "check_trigger" 525 (.ref 226), E P "check_disable" 535 (.ref 233), E P "check_task" 548 (.ref 240), E P "Primitive" 591 (.ref 257), E P "level_codes" 598 (.ref 268), E P "is_edge" 605 (.ref 275), E P "edge_pairs" 617 (.ref 282), E P "edge_place" 625 (.ref 289), E P "edge_count" 634 (.ref 296), E P "check_primitive" 649 (.ref 303), E P "row_faults" 660 (.ref 310), E P "rows_conflict" 670 (.ref 317), E P "share" 679 (.ref 324), E P "out_code" 687 (.ref 331), E P "declare_items" 700 (.ref 338), E P "declare_branch" 712 (.ref 345), E P "declare_implicit" 722 (.ref 352), E P "add_implicit" 731 (.ref 359), E P "check_items" 745 (.ref 366), E P "check_branch" 754 (.ref 373), E P "check_scope" 765 (.ref 380), E P "check_routine" 776 (.ref 387), E P "check_gate" 789 (.ref 394), E P "check_instance" 804 (.ref 401), E P "check_module" 818 (.ref 408), E P "is_port" 825 (.ref 415), E P "in_order" 832 (.ref 422), E P "check_source" 847 (.ref 429), E P "_law_feed" 855 (.ref 434), E P "_law_pick" 864 (.ref 441), E P "_law_port" 872 (.ref 448), E P "_law_instance" 878 (.ref 453), E P "_law_module" 884 (.ref 458), E P "_law_tables" 890 (.ref 465), E P "_law_primitive_faults" 896 (.ref 470), E P "_law_module_faults" 902 (.ref 475), E P "law" 908 (.ref 480)] 70 }),
  (27, C "__init__" "Report.__init__" 201 4 3 3 22 181 23 24 25 26 207 208),
  (28, G "__init__" "Report.__init__" (sub 1 0) (.str (S "gateloom.checknames") 187) 27),
  (34, C "add" "Report.add" 210 9 4 3 29 181 30 31 32 33 217 218),
  (35, G "add" "Report.add" (sub 1 1) (.str (S "gateloom.checknames") 187) 34),
  (37, { cls := .type "dict", data := .dict #[E P "__module__" 196 (.str (S "gateloom.checknames") 187), E P "__firstlineno__" 200 (.int (2) 199), E P "__init__" 209 (.ref 28), E P "add" 219 (.ref 35), E P "__static_attributes__" 223 (.ref 36), E P "__dict__" 225 (.ref 39), E P "__weakref__" 227 (.ref 40), E P "__doc__" 228 (.none)] 4 }),
  (38, { cls := .type "type", data := .cls { name := S "Report", bases := [.type "object"], mro := [.ref 38, .type "object"], ns := 37, qualname := S "Report" }, slots := #[none, none, some (.str (S "Report") 189), some (.str (S "Report") 197), some (.builtin "object.__new__"), some (.bool true)] }),
  (55, C "__init__" "NameTable.__init__" 243 13 2 3 50 181 51 52 53 54 248 249),
  (56, G "__init__" "NameTable.__init__" (sub 2 0) (.str (S "gateloom.checknames") 187) 55),
  (58, { cls := .type "dict", data := .dict #[E P "__module__" 238 (.str (S "gateloom.checknames") 187), E P "__firstlineno__" 242 (.int (11) 241), E P "__init__" 250 (.ref 56), E P "__static_attributes__" 253 (.ref 57), E P "__dict__" 255 (.ref 60), E P "__weakref__" 257 (.ref 61), E P "__doc__" 258 (.none)] 4 }),
  (59, { cls := .type "type", data := .cls { name := S "NameTable", bases := [.type "object"], mro := [.ref 59, .type "object"], ns := 58, qualname := S "NameTable" }, slots := #[none, none, some (.str (S "NameTable") 231), some (.str (S "NameTable") 239), some (.builtin "object.__new__"), some (.bool true)] }),
  (83, C "add_name" "add_name" 278 30 6 3 78 181 79 80 81 82 287 288),
  (84, G "add_name" "add_name" (nth 5) (.str (S "gateloom.checknames") 187) 83),
  (97, C "add_port" "add_port" 302 42 6 3 92 181 93 94 95 96 314 315),
  (98, G "add_port" "add_port" (nth 7) (.str (S "gateloom.checknames") 187) 97),
  (111, C "declare_item" "declare_item" 331 68 4 3 106 181 107 108 109 110 343 344),
  (112, G "declare_item" "declare_item" (nth 9) (.str (S "gateloom.checknames") 187) 111),
  (118, C "check_expr" "check_expr" 346 95 3 3 113 181 114 115 116 117 353 354),
  (119, G "check_expr" "check_expr" (nth 10) (.str (S "gateloom.checknames") 187) 118),
  (132, C "check_optional" "check_optional" 366 121 3 3 127 181 128 129 130 131 372 373),
  (133, G "check_optional" "check_optional" (nth 12) (.str (S "gateloom.checknames") 187) 132),
  (139, C "check_range" "check_range" 375 124 3 3 134 181 135 136 137 138 381 382),
  (140, G "check_range" "check_range" (nth 13) (.str (S "gateloom.checknames") 187) 139),
  (160, C "check_declaration" "check_declaration" 405 137 3 3 155 181 156 157 158 159 413 414),
  (161, G "check_declaration" "check_declaration" (nth 16) (.str (S "gateloom.checknames") 187) 160),
  (253, C "__init__" "Primitive.__init__" 563 321 8 3 248 181 249 250 251 252 574 575),
  (254, G "__init__" "Primitive.__init__" (sub 30 0) (.str (S "gateloom.udps") 549) 253),
  (256, { cls := .type "dict", data := .dict #[E P "__module__" 558 (.str (S "gateloom.udps") 549), E P "__firstlineno__" 562 (.int (319) 561), E P "__init__" 576 (.ref 254), E P "__static_attributes__" 584 (.ref 255), E P "__dict__" 586 (.ref 258), E P "__weakref__" 588 (.ref 259), E P "__doc__" 589 (.none)] 4 }),
  (257, { cls := .type "type", data := .cls { name := S "Primitive", bases := [.type "object"], mro := [.ref 257, .type "object"], ns := 256, qualname := S "Primitive" }, slots := #[none, none, some (.str (S "Primitive") 551), some (.str (S "Primitive") 559), some (.builtin "object.__new__"), some (.bool true)] }),
  (267, C "level_codes" "level_codes" 592 329 1 3 262 181 263 264 265 266 596 597),
  (268, G "level_codes" "level_codes" (nth 31) (.str (S "gateloom.udps") 549) 267),
  (274, C "is_edge" "is_edge" 599 341 1 3 269 181 270 271 272 273 603 604),
  (275, G "is_edge" "is_edge" (nth 32) (.str (S "gateloom.udps") 549) 274),
  (281, C "edge_pairs" "edge_pairs" 606 343 1 3 276 181 277 278 279 280 615 616),
  (282, G "edge_pairs" "edge_pairs" (nth 33) (.str (S "gateloom.udps") 549) 281),
  (288, C "edge_place" "edge_place" 618 363 1 3 283 181 284 285 286 287 623 624),
  (289, G "edge_place" "edge_place" (nth 34) (.str (S "gateloom.udps") 549) 288),
  (295, C "edge_count" "edge_count" 626 368 1 3 290 181 291 292 293 294 632 633),
  (296, G "edge_count" "edge_count" (nth 35) (.str (S "gateloom.udps") 549) 295),
  (302, C "check_primitive" "check_primitive" 635 374 1 3 297 181 298 299 300 301 647 648),
  (303, G "check_primitive" "check_primitive" (nth 36) (.str (S "gateloom.udps") 549) 302),
  (309, C "row_faults" "row_faults" 650 396 2 3 304 181 305 306 307 308 658 659),
  (310, G "row_faults" "row_faults" (nth 37) (.str (S "gateloom.udps") 549) 309),
  (316, C "rows_conflict" "rows_conflict" 661 413 2 3 311 181 312 313 314 315 668 669),
  (317, G "rows_conflict" "rows_conflict" (nth 38) (.str (S "gateloom.udps") 549) 316),
  (323, C "share" "share" 671 428 2 3 318 181 319 320 321 322 677 678),
  (324, G "share" "share" (nth 39) (.str (S "gateloom.udps") 549) 323),
  (330, C "out_code" "out_code" 680 433 2 3 325 181 326 327 328 329 685 686),
  (331, G "out_code" "out_code" (nth 40) (.str (S "gateloom.udps") 549) 330),
  (337, C "declare_items" "declare_items" 690 438 3 3 332 181 333 334 335 336 698 699),
  (338, G "declare_items" "declare_items" (nth 42) (.str (S "gateloom.checks") 688) 337),
  (351, C "declare_implicit" "declare_implicit" 713 466 2 3 346 181 347 348 349 350 720 721),
  (352, G "declare_implicit" "declare_implicit" (nth 44) (.str (S "gateloom.checks") 688) 351),
  (358, C "add_implicit" "add_implicit" 723 476 2 3 353 181 354 355 356 357 729 730),
  (359, G "add_implicit" "add_implicit" (nth 45) (.str (S "gateloom.checks") 688) 358),
  (365, C "check_items" "check_items" 732 482 3 3 360 181 361 362 363 364 743 744),
  (366, G "check_items" "check_items" (nth 46) (.str (S "gateloom.checks") 688) 365),
  (400, C "check_instance" "check_instance" 790 566 3 3 395 181 396 397 398 399 802 803),
  (401, G "check_instance" "check_instance" (nth 51) (.str (S "gateloom.checks") 688) 400),
  (407, C "check_module" "check_module" 805 589 2 3 402 181 403 404 405 406 816 817),
  (408, G "check_module" "check_module" (nth 52) (.str (S "gateloom.checks") 688) 407),
  (414, C "is_port" "is_port" 819 606 1 3 409 181 410 411 412 413 823 824),
  (415, G "is_port" "is_port" (nth 53) (.str (S "gateloom.checks") 688) 414),
  (421, C "in_order" "in_order" 826 608 1 3 416 181 417 418 419 420 830 831),
  (422, G "in_order" "in_order" (nth 54) (.str (S "gateloom.checks") 688) 421),
  (428, C "check_source" "check_source" 833 610 1 3 423 181 424 425 426 427 845 846),
  (429, G "check_source" "check_source" (nth 55) (.str (S "gateloom.checks") 688) 428),
  (433, { cls := .type "code", data := .fields #[.str (S "_law_feed") 850, .str (S "_law_feed") 851, .str (S "/claim/cut.py") 852, .int (633) 0, .int (1) 0, .int (0) 0, .int (0) 0, .int (3) 0, .ref 430, .bool true, .int (181) 0, .ref 431, .none, .none, .none, .ref 432, .int (853) 0, .int (633) 0, .str (S "/claim/cut.py") 854] }),
  (434, G "_law_feed" "_law_feed" (nth 57) (.str (S "law_sj0060_01") 848) 433),
  (440, C "_law_pick" "_law_pick" 856 636 2 3 435 181 436 437 438 439 862 863),
  (441, G "_law_pick" "_law_pick" (nth 58) (.str (S "law_sj0060_01") 848) 440),
  (447, C "_law_port" "_law_port" 865 646 2 3 442 181 443 444 445 446 870 871),
  (448, G "_law_port" "_law_port" (nth 59) (.str (S "law_sj0060_01") 848) 447),
  (452, { cls := .type "code", data := .fields #[.str (S "_law_instance") 873, .str (S "_law_instance") 874, .str (S "/claim/cut.py") 875, .int (648) 0, .int (4) 0, .int (0) 0, .int (0) 0, .int (3) 0, .ref 449, .bool true, .int (181) 0, .ref 450, .none, .none, .none, .ref 451, .int (876) 0, .int (648) 0, .str (S "/claim/cut.py") 877] }),
  (453, G "_law_instance" "_law_instance" (nth 60) (.str (S "law_sj0060_01") 848) 452),
  (457, { cls := .type "code", data := .fields #[.str (S "_law_module") 879, .str (S "_law_module") 880, .str (S "/claim/cut.py") 881, .int (651) 0, .int (3) 0, .int (0) 0, .int (0) 0, .int (3) 0, .ref 454, .bool true, .int (181) 0, .ref 455, .none, .none, .none, .ref 456, .int (882) 0, .int (651) 0, .str (S "/claim/cut.py") 883] }),
  (458, G "_law_module" "_law_module" (nth 61) (.str (S "law_sj0060_01") 848) 457),
  (464, C "_law_tables" "_law_tables" 885 672 0 3 459 181 460 461 462 463 888 889),
  (465, G "_law_tables" "_law_tables" (nth 62) (.str (S "law_sj0060_01") 848) 464),
  (469, { cls := .type "code", data := .fields #[.str (S "_law_primitive_faults") 891, .str (S "_law_primitive_faults") 892, .str (S "/claim/cut.py") 893, .int (674) 0, .int (2) 0, .int (0) 0, .int (0) 0, .int (3) 0, .ref 466, .bool true, .int (181) 0, .ref 467, .none, .none, .none, .ref 468, .int (894) 0, .int (674) 0, .str (S "/claim/cut.py") 895] }),
  (470, G "_law_primitive_faults" "_law_primitive_faults" (nth 63) (.str (S "law_sj0060_01") 848) 469),
  (474, { cls := .type "code", data := .fields #[.str (S "_law_module_faults") 897, .str (S "_law_module_faults") 898, .str (S "/claim/cut.py") 899, .int (678) 0, .int (2) 0, .int (0) 0, .int (0) 0, .int (3) 0, .ref 471, .bool true, .int (181) 0, .ref 472, .none, .none, .none, .ref 473, .int (900) 0, .int (678) 0, .str (S "/claim/cut.py") 901] }),
  (475, G "_law_module_faults" "_law_module_faults" (nth 64) (.str (S "law_sj0060_01") 848) 474),
  (479, { cls := .type "code", data := .fields #[.str (S "law") 903, .str (S "law") 904, .str (S "/claim/cut.py") 905, .int (709) 0, .int (1) 0, .int (0) 0, .int (0) 0, .int (3) 0, .ref 476, .bool true, .int (181) 0, .ref 477, .none, .none, .none, .ref 478, .int (906) 0, .int (709) 0, .str (S "/claim/cut.py") 907] }),
  (480, G "law" "law" (nth 65) (.str (S "law_sj0060_01") 848) 479)]
noncomputable def adrs : List Addr := [3, 27, 28, 34, 35, 37, 38, 55, 56, 58, 59, 83, 84, 97, 98, 111, 112, 118, 119, 132, 133, 139, 140, 160, 161, 253, 254, 256, 257, 267, 268, 274, 275, 281, 282, 288, 289, 295, 296, 302, 303, 309, 310, 316, 317, 323, 324, 330, 331, 337, 338, 351, 352, 358, 359, 365, 366, 400, 401, 407, 408, 414, 415, 421, 422, 428, 429, 433, 434, 440, 441, 447, 448, 452, 453, 457, 458, 464, 465, 469, 470, 474, 475, 479, 480]
noncomputable def view : Program := { PySem.Challenge.pw_sj0060_01 with main := { PySem.Challenge.pw_sj0060_01.main with body := [nth 65] } }
noncomputable def lose : List PySem.Str := (["Report", "NameTable", "find", "find_routine", "add_name", "add_label", "add_port", "add_signal", "declare_item", "check_expr", "check_each", "check_optional", "check_range", "check_path", "check_call", "check_declaration", "check_target", "check_target_name", "declare_labels", "check_stmt", "check_block", "check_case", "check_control", "check_events", "check_trigger", "check_disable", "check_task", "Primitive", "level_codes", "is_edge", "edge_pairs", "edge_place", "edge_count", "check_primitive", "row_faults", "rows_conflict", "share", "out_code", "declare_items", "declare_branch", "declare_implicit", "add_implicit", "check_items", "check_branch", "check_scope", "check_routine", "check_gate", "check_instance", "check_module", "is_port", "in_order", "check_source", "_law_feed", "_law_pick", "_law_port", "_law_instance", "_law_module", "_law_tables", "_law_primitive_faults", "_law_module_faults"] : List String).map PySem.Str.ofString
theorem adrs_eq (P : Params) : adrs = (heap P).map (·.1) := by kernel_rfl
noncomputable abbrev hook : Hook := kmHook heap adrs adrs_eq [417]
end Mine
namespace Mine
/-! the law is well said, part by part -/
noncomputable abbrev LW : OpenLaw := PySem.Challenge.rw_sj0060_01
noncomputable abbrev RW : OpenRow := LW.row
theorem ws1 : sreFenced RW.prog.main = true := by kernel_rfl
theorem ws2 : ((moduleNames RW.prog.main.body).isEmpty || lookedIntoSs (moduleNames RW.prog.main.body) RW.prog.main.body) = true := by kernel_rfl
theorem ws3 : namesResolve RW.prog = true := by kernel_rfl
theorem ws4 : (RW.prog.boundNames.all (fun n => !worldNames.contains n)) = true := by kernel_rfl
theorem ws5 : noRoadLSs { strict := !(importedModules RW.prog.main.body).all cThrough.contains, foot := none, bare := (["vars", "dir", "locals"] : List Str).filter (readsOut RW.prog RW.prog.main.body) } RW.prog.main.body = true := by kernel_rfl
theorem ws6 : (namesMeet RW.prog RW.prog.main.body fun _ n => attrL n) = true := by kernel_rfl
theorem lookd : looksOpen RW.prog = true := by
  unfold looksOpen
  exact look_both (look_both (look_both (look_both (look_both ws1 ws2) ws3) ws4) ws5) ws6
theorem wsr : RW.wellSaid = true := by
  unfold OpenRow.wellSaid OpenRow.partSaid
  rw [lookd]
  kernel_rfl
theorem wl1 : (decide (LW.foot ≤ (behindTheImports LW.prog).length) && LW.footing.all footLine && noClassBlock LW.prog LW.footing) = true := by kernel_rfl
theorem wl4 : noRoadLSs { strict := true, foot := some LW.bound', writes := LW.writes, may := LW.may } LW.footing = true := by kernel_rfl
theorem wl5 : (defStands LW.about LW.above && LW.namesIt) = true := by kernel_rfl
theorem wl7 : (LW.bound'.all (fun n => !builtinNamed n || LW.about == [n] || !LW.reads n)) = true := by kernel_rfl
theorem wl10 : (namesMeet LW.prog LW.footing (fun sc n => (!(["type", "isinstance", "issubclass", "getattr", "hasattr"] : List Str).contains n || sc.names.lookup n == some .globalImplicit) &&
    (LW.may != some n || sc.kind == .module || sc.names.lookup n == some .globalImplicit))) = true := by kernel_rfl
theorem wl14 : namesMeet LW.prog LW.above (fun _ n => !LW.own.contains n) = true := by kernel_rfl
theorem wl15 : (namesMeet LW.prog LW.footing fun sc n => sc.kind == .module || sc.names.lookup n != some .globalExplicit) = true := by kernel_rfl
theorem said : OpenLaw.wellSaid PySem.Challenge.rw_sj0060_01 = true := by
  have h1 := wl1
  rw [Bool.and_eq_true_iff, Bool.and_eq_true_iff] at h1
  have h5 := wl5
  rw [Bool.and_eq_true_iff] at h5
  unfold OpenLaw.wellSaid
  refine look_both (look_both (look_both (look_both (look_both (look_both (look_both (look_both (look_both (look_both (look_both (look_both (look_both (look_both (look_both (look_both (look_both (look_both wsr h1.1.1) h1.1.2) h1.2) ?_) ?_) wl4) h5.1) h5.2) ?_) wl7) ?_) ?_) wl10) ?_) ?_) ?_) wl14) wl15
  all_goals kernel_rfl
end Mine
namespace Mine
/-! the run of the top, in pieces -/
noncomputable abbrev U : Obj := { cls := .type "tuple", data := .seq #[] 0 }
noncomputable abbrev V : Obj := { cls := .none, data := .fields #[] }
noncomputable def argStrs : List String → Tok → List Value
  | [], _ => []
  | x :: l, t => .str (S x) t :: argStrs l (t + 1)
noncomputable abbrev Q (n q : String) (st : Stmt) : Obj :=
  { cls := .none, data := .func { name := S n, qualname := S q, params := argsOf st, body := .stmts (bodyOf st), scope := scOf st, globals := 0, closure := [], defaults := .none, kwdefaults := .none } }
noncomputable def D7 (b : Addr) (n q : String) (t : Tok) (ln ac : Int) (xs : List String) (st : Stmt) (pm : Value) : List Obj :=
  [U, V, { cls := .type "tuple", data := .seq (.mk (argStrs xs (t + 3))) 0 }, U, Q n q st, C n q t ln ac 3 b 181 (b + 1) (b + 2) (b + 3) (b + 4) (t + 3 + xs.length : Nat) (t + 4 + xs.length), G n q st pm (b + 5)]
noncomputable def fixEs (P : Params) : List DictEntry := [E P "__doc__" 166 (.none), E P "__package__" 167 (.none), E P "__loader__" 168 (.builtin "__main__.__loader__#opaque"), E P "__spec__" 169 (.none), E P "__annotations__" 170 (.ref 6), E P "__builtins__" 171 (.ref 4), E P "__file__" 173 (.str (S "/claim/cut.py") 172), E P "__cached__" 174 (.none)]
noncomputable def globEs (P : Params) : List DictEntry := [E P "Report" 230 (.ref 38), E P "NameTable" 260 (.ref 59), E P "find" 268 (.ref 70), E P "find_routine" 277 (.ref 77), E P "add_name" 289 (.ref 84), E P "add_label" 301 (.ref 91), E P "add_port" 316 (.ref 98), E P "add_signal" 330 (.ref 105), E P "declare_item" 345 (.ref 112), E P "check_expr" 355 (.ref 119), E P "check_each" 365 (.ref 126), E P "check_optional" 374 (.ref 133), E P "check_range" 383 (.ref 140), E P "check_path" 394 (.ref 147), E P "check_call" 404 (.ref 154), E P "check_declaration" 415 (.ref 161), E P "check_target" 428 (.ref 169), E P "check_target_name" 441 (.ref 177), E P "declare_labels" 455 (.ref 184), E P "check_stmt" 469 (.ref 191), E P "check_block" 482 (.ref 198), E P "check_case" 495 (.ref 205), E P "check_control" 504 (.ref 212), E P "check_events" 515 (.ref 219), E P "check_trigger" 525 (.ref 226), E P "check_disable" 535 (.ref 233), E P "check_task" 548 (.ref 240), E P "Primitive" 591 (.ref 257), E P "level_codes" 598 (.ref 268), E P "is_edge" 605 (.ref 275), E P "edge_pairs" 617 (.ref 282), E P "edge_place" 625 (.ref 289), E P "edge_count" 634 (.ref 296), E P "check_primitive" 649 (.ref 303), E P "row_faults" 660 (.ref 310), E P "rows_conflict" 670 (.ref 317), E P "share" 679 (.ref 324), E P "out_code" 687 (.ref 331), E P "declare_items" 700 (.ref 338), E P "declare_branch" 712 (.ref 345), E P "declare_implicit" 722 (.ref 352), E P "add_implicit" 731 (.ref 359), E P "check_items" 745 (.ref 366), E P "check_branch" 754 (.ref 373), E P "check_scope" 765 (.ref 380), E P "check_routine" 776 (.ref 387), E P "check_gate" 789 (.ref 394), E P "check_instance" 804 (.ref 401), E P "check_module" 818 (.ref 408), E P "is_port" 825 (.ref 415), E P "in_order" 832 (.ref 422), E P "check_source" 847 (.ref 429), E P "_law_feed" 855 (.ref 434), E P "_law_pick" 864 (.ref 441), E P "_law_port" 872 (.ref 448), E P "_law_instance" 878 (.ref 453), E P "_law_module" 884 (.ref 458), E P "_law_tables" 890 (.ref 465), E P "_law_primitive_faults" 896 (.ref 470), E P "_law_module_faults" 902 (.ref 475), E P "law" 908 (.ref 480)]
noncomputable def lineOf : List (Int × Addr) := [(2, 20), (11, 48), (16, 69), (22, 76), (30, 83), (35, 90), (42, 97), (56, 104), (68, 111), (95, 118), (118, 125), (121, 132), (124, 139), (127, 146), (130, 153), (137, 160), (156, 168), (170, 176), (186, 183), (208, 190), (253, 197), (265, 204), (276, 211), (281, 218), (286, 225), (294, 232), (300, 239), (319, 246), (329, 267), (341, 274), (343, 281), (363, 288), (368, 295), (374, 302), (396, 309), (413, 316), (428, 323), (433, 330), (438, 337), (454, 344), (466, 351), (476, 358), (482, 365), (522, 372), (531, 379), (538, 386), (552, 393), (566, 400), (589, 407), (606, 414), (608, 421), (610, 428), (633, 433), (636, 440), (646, 447), (648, 452), (651, 457), (672, 464), (674, 469), (678, 474), (709, 479)]
noncomputable def base (P : Params) (nm : Value) (k m : Nat) : List Obj := (boot_heap P).objs.toList.set 3 { cls := .type "dict", data := .dict (.mk (E P "__name__" 165 nm :: (fixEs P ++ (globEs P).take k))) (9 + k) } ++
  [U, { cls := .none, data := .fields (.mk ((lineOf.take m).flatMap fun x => [.int x.1 0, .int 0 0, .ref x.2])) },
   { cls := .type "code", data := .fields #[.str (S "<module>") 182, .str (S "<module>") 183, .str (S "/claim/cut.py") 184, .int (1) 0, .int (0) 0, .int (0) 0, .int (0) 0, .int (0) 0, .ref 11, .bool false, .int (181) 0, .ref 12, .none, .none, .none, .none, .int (185) 0, .int (1) 0, .str (S "/claim/cut.py") 186] }, { cls := .type "frame", data := .plain, slots := #[some (.ref 13), some (.ref 3), some (.ref 3), none, some (.str (S "__main__") 164), none, some (.ref 0)] }]
noncomputable def ob0 (P : Params) : List Obj := [[U],
  [{ cls := .type "builtin_function_or_method", data := .fields #[.builtin "type.__prepare__", .type "type"] }],
  [{ cls := .type "dict", data := .dict #[E P "__module__" 196 (.str (S "gateloom.checknames") 187), E P "__qualname__" 198 (.str (S "Report") 197), E P "__firstlineno__" 200 (.int (2) 199), E P "__init__" 209 (.ref 28), E P "add" 219 (.ref 35), E P "__static_attributes__" 223 (.ref 36)] 6 }],
  [U],
  [{ cls := .none, data := .fields #[.int (4) 0, .int (4) 0, .ref 27, .int (9) 0, .int (4) 0, .ref 34] }],
  [{ cls := .type "code", data := .fields #[.str (S "Report") 191, .str (S "Report") 192, .str (S "/claim/cut.py") 193, .int (2) 0, .int (0) 0, .int (0) 0, .int (0) 0, .int (0) 0, .ref 18, .bool false, .int (181) 0, .ref 19, .none, .none, .none, .none, .int (194) 0, .int (2) 0, .str (S "/claim/cut.py") 195] }],
  [{ cls := .type "frame", data := .plain, slots := #[some (.ref 20), some (.ref 3), some (.ref 17), none, some (.str (S "gateloom.checknames") 187), none, some (.ref 0)] }],
  D7 22 "__init__" "Report.__init__" 201 4 3 ["self", "names", "nettype"] (sub 1 0) (.str (S "gateloom.checknames") 187),
  D7 29 "add" "Report.add" 210 9 4 ["self", "kind", "at", "detail"] (sub 1 1) (.str (S "gateloom.checknames") 187),
  [{ cls := .type "tuple", data := .seq #[.str (S "names") 220, .str (S "nettype") 221, .str (S "rows") 222] 0 }],
  [{ cls := .type "dict", data := .dict #[E P "__module__" 196 (.str (S "gateloom.checknames") 187), E P "__firstlineno__" 200 (.int (2) 199), E P "__init__" 209 (.ref 28), E P "add" 219 (.ref 35), E P "__static_attributes__" 223 (.ref 36), E P "__dict__" 225 (.ref 39), E P "__weakref__" 227 (.ref 40), E P "__doc__" 228 (.none)] 4 }],
  [{ cls := .type "type", data := .cls { name := S "Report", bases := [.type "object"], mro := [.ref 38, .type "object"], ns := 37, qualname := S "Report" }, slots := #[none, none, some (.str (S "Report") 189), some (.str (S "Report") 197), some (.builtin "object.__new__"), some (.bool true)] }],
  [{ cls := .type "getset_descriptor", data := .fields #[.str (S "__dict__") 224, .ref 38, .builtin "function.__dict__", .builtin "function.__dict__#set"] }],
  [{ cls := .type "getset_descriptor", data := .fields #[.str (S "__weakref__") 226, .ref 38, .builtin "ExceptionGroup.__weakref__", .none] }],
  [{ cls := .type "super", data := .fields #[.ref 38, .ref 38, .ref 38] }],
  [{ cls := .type "builtin_function_or_method", data := .fields #[.builtin "object.__init_subclass__", .ref 38] }],
  [U],
  [{ cls := .type "builtin_function_or_method", data := .fields #[.builtin "type.__prepare__", .type "type"] }],
  [{ cls := .type "dict", data := .dict #[E P "__module__" 238 (.str (S "gateloom.checknames") 187), E P "__qualname__" 240 (.str (S "NameTable") 239), E P "__firstlineno__" 242 (.int (11) 241), E P "__init__" 250 (.ref 56), E P "__static_attributes__" 253 (.ref 57)] 5 }],
  [U],
  [{ cls := .none, data := .fields #[.int (13) 0, .int (4) 0, .ref 55] }],
  [{ cls := .type "code", data := .fields #[.str (S "NameTable") 233, .str (S "NameTable") 234, .str (S "/claim/cut.py") 235, .int (11) 0, .int (0) 0, .int (0) 0, .int (0) 0, .int (0) 0, .ref 46, .bool false, .int (181) 0, .ref 47, .none, .none, .none, .none, .int (236) 0, .int (11) 0, .str (S "/claim/cut.py") 237] }],
  [{ cls := .type "frame", data := .plain, slots := #[some (.ref 48), some (.ref 3), some (.ref 45), none, some (.str (S "gateloom.checknames") 187), none, some (.ref 0)] }],
  D7 50 "__init__" "NameTable.__init__" 243 13 2 ["self", "parent"] (sub 2 0) (.str (S "gateloom.checknames") 187),
  [{ cls := .type "tuple", data := .seq #[.str (S "entries") 251, .str (S "parent") 252] 0 }],
  [{ cls := .type "dict", data := .dict #[E P "__module__" 238 (.str (S "gateloom.checknames") 187), E P "__firstlineno__" 242 (.int (11) 241), E P "__init__" 250 (.ref 56), E P "__static_attributes__" 253 (.ref 57), E P "__dict__" 255 (.ref 60), E P "__weakref__" 257 (.ref 61), E P "__doc__" 258 (.none)] 4 }],
  [{ cls := .type "type", data := .cls { name := S "NameTable", bases := [.type "object"], mro := [.ref 59, .type "object"], ns := 58, qualname := S "NameTable" }, slots := #[none, none, some (.str (S "NameTable") 231), some (.str (S "NameTable") 239), some (.builtin "object.__new__"), some (.bool true)] }],
  [{ cls := .type "getset_descriptor", data := .fields #[.str (S "__dict__") 254, .ref 59, .builtin "function.__dict__", .builtin "function.__dict__#set"] }],
  [{ cls := .type "getset_descriptor", data := .fields #[.str (S "__weakref__") 256, .ref 59, .builtin "ExceptionGroup.__weakref__", .none] }],
  [{ cls := .type "super", data := .fields #[.ref 59, .ref 59, .ref 59] }],
  [{ cls := .type "builtin_function_or_method", data := .fields #[.builtin "object.__init_subclass__", .ref 59] }],
  D7 64 "find" "find" 261 16 2 ["table", "name"] (nth 3) (.str (S "gateloom.checknames") 187),
  D7 71 "find_routine" "find_routine" 269 22 2 ["table", "name", "entry"] (nth 4) (.str (S "gateloom.checknames") 187),
  D7 78 "add_name" "add_name" 278 30 6 ["report", "table", "name", "what", "at", "info"] (nth 5) (.str (S "gateloom.checknames") 187),
  D7 85 "add_label" "add_label" 290 35 5 ["report", "table", "name", "at", "group", "entry"] (nth 6) (.str (S "gateloom.checknames") 187),
  D7 92 "add_port" "add_port" 302 42 6 ["report", "table", "name", "at", "direction", "in_routine", "what", "first", "info"] (nth 7) (.str (S "gateloom.checknames") 187),
  D7 99 "add_signal" "add_signal" 317 56 6 ["report", "table", "name", "what", "at", "in_routine", "entry", "direction"] (nth 8) (.str (S "gateloom.checknames") 187),
  D7 106 "declare_item" "declare_item" 331 68 4 ["report", "table", "item", "in_routine", "tag", "at", "directions", "inner", "name"] (nth 9) (.str (S "gateloom.checknames") 187),
  D7 113 "check_expr" "check_expr" 346 95 3 ["report", "table", "e", "tag"] (nth 10) (.str (S "gateloom.checknames") 187)].flatten
noncomputable def ob1 (P : Params) : List Obj := [D7 120 "check_each" "check_each" 356 118 3 ["report", "table", "items", "e"] (nth 11) (.str (S "gateloom.checknames") 187),
  D7 127 "check_optional" "check_optional" 366 121 3 ["report", "table", "e"] (nth 12) (.str (S "gateloom.checknames") 187),
  D7 134 "check_range" "check_range" 375 124 3 ["report", "table", "bounds"] (nth 13) (.str (S "gateloom.checknames") 187),
  D7 141 "check_path" "check_path" 384 127 3 ["report", "table", "e", "name", "index"] (nth 14) (.str (S "gateloom.checknames") 187),
  D7 148 "check_call" "check_call" 395 130 3 ["report", "table", "e", "entry"] (nth 15) (.str (S "gateloom.checknames") 187),
  D7 155 "check_declaration" "check_declaration" 405 137 3 ["report", "table", "item", "tag", "bounds"] (nth 16) (.str (S "gateloom.checknames") 187),
  [{ cls := .type "tuple", data := .seq #[.bool false] 0 }],
  [U],
  [V],
  [{ cls := .type "tuple", data := .seq #[.str (S "report") 419, .str (S "table") 420, .str (S "lv") 421, .str (S "procedural") 422, .str (S "inputs") 423, .str (S "tag") 424, .str (S "part") 425] 0 }],
  [U],
  [Q "check_target" "check_target" (nth 17)],
  [{ cls := .type "code", data := .fields #[.str (S "check_target") 416, .str (S "check_target") 417, .str (S "/claim/cut.py") 418, .int (156) 0, .int (5) 0, .int (0) 0, .int (0) 0, .int (3) 0, .ref 163, .bool true, .int (181) 0, .ref 164, .none, .ref 165, .ref 166, .ref 167, .int (426) 0, .int (156) 0, .str (S "/claim/cut.py") 427] }],
  [{ cls := .type "function", data := .func { (fnOf (S "check_target") (S "check_target") (argsOf (nth 17)) (bodyOf (nth 17)) (scOf (nth 17)) .none .none .none (.str (S "gateloom.checknames") 187) none (.ref 168) .none) with defaults := .ref 162 } }],
  [{ cls := .type "tuple", data := .seq #[.bool false] 0 }],
  [U],
  [V],
  [{ cls := .type "tuple", data := .seq #[.str (S "report") 432, .str (S "table") 433, .str (S "at") 434, .str (S "name") 435, .str (S "procedural") 436, .str (S "inputs") 437, .str (S "entry") 438] 0 }],
  [U],
  [Q "check_target_name" "check_target_name" (nth 18)],
  [{ cls := .type "code", data := .fields #[.str (S "check_target_name") 429, .str (S "check_target_name") 430, .str (S "/claim/cut.py") 431, .int (170) 0, .int (6) 0, .int (0) 0, .int (0) 0, .int (3) 0, .ref 171, .bool true, .int (181) 0, .ref 172, .none, .ref 173, .ref 174, .ref 175, .int (439) 0, .int (170) 0, .str (S "/claim/cut.py") 440] }],
  [{ cls := .type "function", data := .func { (fnOf (S "check_target_name") (S "check_target_name") (argsOf (nth 18)) (bodyOf (nth 18)) (scOf (nth 18)) .none .none .none (.str (S "gateloom.checknames") 187) none (.ref 176) .none) with defaults := .ref 170 } }],
  D7 178 "declare_labels" "declare_labels" 444 186 3 ["report", "table", "s", "tag", "inner", "labels"] (nth 20) (.str (S "gateloom.checkstmts") 442)].flatten
noncomputable def ob2 (P : Params) : List Obj := [D7 185 "check_stmt" "check_stmt" 456 208 4 ["report", "table", "s", "timing", "tag", "at", "lv", "e"] (nth 21) (.str (S "gateloom.checkstmts") 442),
  D7 192 "check_block" "check_block" 470 253 4 ["report", "table", "s", "timing", "inner", "item", "statement"] (nth 22) (.str (S "gateloom.checkstmts") 442),
  D7 199 "check_case" "check_case" 483 265 4 ["report", "table", "s", "timing", "defaults", "labels", "inner"] (nth 23) (.str (S "gateloom.checkstmts") 442),
  D7 206 "check_control" "check_control" 496 276 3 ["report", "table", "control"] (nth 24) (.str (S "gateloom.checkstmts") 442),
  D7 213 "check_events" "check_events" 505 281 3 ["report", "table", "events", "edge", "e"] (nth 25) (.str (S "gateloom.checkstmts") 442),
  D7 220 "check_trigger" "check_trigger" 516 286 3 ["report", "table", "e", "entry"] (nth 26) (.str (S "gateloom.checkstmts") 442),
  D7 227 "check_disable" "check_disable" 526 294 3 ["report", "table", "e", "entry"] (nth 27) (.str (S "gateloom.checkstmts") 442),
  D7 234 "check_task" "check_task" 536 300 3 ["report", "table", "s", "args", "directions", "entry", "i"] (nth 28) (.str (S "gateloom.checkstmts") 442)].flatten
noncomputable def ob3 (P : Params) : List Obj := [[U],
  [{ cls := .type "builtin_function_or_method", data := .fields #[.builtin "type.__prepare__", .type "type"] }],
  [{ cls := .type "dict", data := .dict #[E P "__module__" 558 (.str (S "gateloom.udps") 549), E P "__qualname__" 560 (.str (S "Primitive") 559), E P "__firstlineno__" 562 (.int (319) 561), E P "__init__" 576 (.ref 254), E P "__static_attributes__" 584 (.ref 255)] 5 }],
  [U],
  [{ cls := .none, data := .fields #[.int (321) 0, .int (4) 0, .ref 253] }],
  [{ cls := .type "code", data := .fields #[.str (S "Primitive") 553, .str (S "Primitive") 554, .str (S "/claim/cut.py") 555, .int (319) 0, .int (0) 0, .int (0) 0, .int (0) 0, .int (0) 0, .ref 244, .bool false, .int (181) 0, .ref 245, .none, .none, .none, .none, .int (556) 0, .int (319) 0, .str (S "/claim/cut.py") 557] }],
  [{ cls := .type "frame", data := .plain, slots := #[some (.ref 246), some (.ref 3), some (.ref 243), none, some (.str (S "gateloom.udps") 549), none, some (.ref 0)] }],
  D7 248 "__init__" "Primitive.__init__" 563 321 8 ["self", "name", "at", "output", "inputs", "sequential", "init", "rows"] (sub 30 0) (.str (S "gateloom.udps") 549),
  [{ cls := .type "tuple", data := .seq #[.str (S "at") 577, .str (S "init") 578, .str (S "inputs") 579, .str (S "name") 580, .str (S "output") 581, .str (S "rows") 582, .str (S "sequential") 583] 0 }],
  [{ cls := .type "dict", data := .dict #[E P "__module__" 558 (.str (S "gateloom.udps") 549), E P "__firstlineno__" 562 (.int (319) 561), E P "__init__" 576 (.ref 254), E P "__static_attributes__" 584 (.ref 255), E P "__dict__" 586 (.ref 258), E P "__weakref__" 588 (.ref 259), E P "__doc__" 589 (.none)] 4 }],
  [{ cls := .type "type", data := .cls { name := S "Primitive", bases := [.type "object"], mro := [.ref 257, .type "object"], ns := 256, qualname := S "Primitive" }, slots := #[none, none, some (.str (S "Primitive") 551), some (.str (S "Primitive") 559), some (.builtin "object.__new__"), some (.bool true)] }],
  [{ cls := .type "getset_descriptor", data := .fields #[.str (S "__dict__") 585, .ref 257, .builtin "function.__dict__", .builtin "function.__dict__#set"] }],
  [{ cls := .type "getset_descriptor", data := .fields #[.str (S "__weakref__") 587, .ref 257, .builtin "ExceptionGroup.__weakref__", .none] }],
  [{ cls := .type "super", data := .fields #[.ref 257, .ref 257, .ref 257] }],
  [{ cls := .type "builtin_function_or_method", data := .fields #[.builtin "object.__init_subclass__", .ref 257] }],
  D7 262 "level_codes" "level_codes" 592 329 1 ["symbol"] (nth 31) (.str (S "gateloom.udps") 549),
  D7 269 "is_edge" "is_edge" 599 341 1 ["symbol"] (nth 32) (.str (S "gateloom.udps") 549),
  D7 276 "edge_pairs" "edge_pairs" 606 343 1 ["symbol", "before", "behind", "pairs", "v", "w"] (nth 33) (.str (S "gateloom.udps") 549),
  D7 283 "edge_place" "edge_place" 618 363 1 ["row", "i"] (nth 34) (.str (S "gateloom.udps") 549),
  D7 290 "edge_count" "edge_count" 626 368 1 ["row", "count", "symbol"] (nth 35) (.str (S "gateloom.udps") 549),
  D7 297 "check_primitive" "check_primitive" 635 374 1 ["p", "faults", "names", "name", "sound", "number", "kinds", "kind", "earlier"] (nth 36) (.str (S "gateloom.udps") 549),
  D7 304 "row_faults" "row_faults" 650 396 2 ["p", "row", "kinds", "edges", "symbol"] (nth 37) (.str (S "gateloom.udps") 549),
  D7 311 "rows_conflict" "rows_conflict" 661 413 2 ["u", "v", "i", "state"] (nth 38) (.str (S "gateloom.udps") 549)].flatten
noncomputable def ob4 (P : Params) : List Obj := [D7 318 "share" "share" 671 428 2 ["left", "right", "item"] (nth 39) (.str (S "gateloom.udps") 549),
  D7 325 "out_code" "out_code" 680 433 2 ["out", "state"] (nth 40) (.str (S "gateloom.udps") 549),
  D7 332 "declare_items" "declare_items" 690 438 3 ["report", "table", "items", "item", "tag"] (nth 42) (.str (S "gateloom.checks") 688),
  D7 339 "declare_branch" "declare_branch" 701 454 4 ["report", "table", "item", "group", "labels", "inner"] (nth 43) (.str (S "gateloom.checks") 688),
  D7 346 "declare_implicit" "declare_implicit" 713 466 2 ["table", "item", "e", "name"] (nth 44) (.str (S "gateloom.checks") 688),
  D7 353 "add_implicit" "add_implicit" 723 476 2 ["table", "e", "part"] (nth 45) (.str (S "gateloom.checks") 688),
  D7 360 "check_items" "check_items" 732 482 3 ["report", "table", "items", "item", "tag", "labels", "inner", "entry"] (nth 46) (.str (S "gateloom.checks") 688),
  D7 367 "check_branch" "check_branch" 746 522 3 ["report", "table", "item"] (nth 47) (.str (S "gateloom.checks") 688)].flatten
noncomputable def ob5 (P : Params) : List Obj := [D7 374 "check_scope" "check_scope" 755 531 3 ["report", "table", "items", "inner", "item"] (nth 48) (.str (S "gateloom.checks") 688),
  D7 381 "check_routine" "check_routine" 766 538 3 ["report", "table", "item", "inner", "declaration"] (nth 49) (.str (S "gateloom.checks") 688),
  D7 388 "check_gate" "check_gate" 777 552 3 ["report", "table", "item", "terminals", "outs", "pulls", "i"] (nth 50) (.str (S "gateloom.checks") 688),
  D7 395 "check_instance" "check_instance" 790 566 3 ["report", "table", "item", "at", "conns", "name", "e", "ports", "connected"] (nth 51) (.str (S "gateloom.checks") 688),
  D7 402 "check_module" "check_module" 805 589 2 ["module", "names", "report", "table", "items", "listed", "name", "item"] (nth 52) (.str (S "gateloom.checks") 688),
  D7 409 "is_port" "is_port" 819 606 1 ["entry"] (nth 53) (.str (S "gateloom.checks") 688),
  D7 416 "in_order" "in_order" 826 608 1 ["rows"] (nth 54) (.str (S "gateloom.checks") 688),
  D7 423 "check_source" "check_source" 833 610 1 ["modules", "names", "rows", "unit", "name", "at", "ports", "kind", "row"] (nth 55) (.str (S "gateloom.checks") 688)].flatten
noncomputable def ob6 (P : Params) : List Obj := [[U],
  [V],
  [Q "_law_feed" "_law_feed" (nth 57)],
  [{ cls := .type "code", data := .fields #[.str (S "_law_feed") 850, .str (S "_law_feed") 851, .str (S "/claim/cut.py") 852, .int (633) 0, .int (1) 0, .int (0) 0, .int (0) 0, .int (3) 0, .ref 430, .bool true, .int (181) 0, .ref 431, .none, .none, .none, .ref 432, .int (853) 0, .int (633) 0, .str (S "/claim/cut.py") 854] }],
  [G "_law_feed" "_law_feed" (nth 57) (.str (S "law_sj0060_01") 848) 433],
  D7 435 "_law_pick" "_law_pick" 856 636 2 ["feed", "many", "found"] (nth 58) (.str (S "law_sj0060_01") 848),
  D7 442 "_law_port" "_law_port" 865 646 2 ["mark", "name"] (nth 59) (.str (S "law_sj0060_01") 848),
  [U],
  [V],
  [Q "_law_instance" "_law_instance" (nth 60)],
  [{ cls := .type "code", data := .fields #[.str (S "_law_instance") 873, .str (S "_law_instance") 874, .str (S "/claim/cut.py") 875, .int (648) 0, .int (4) 0, .int (0) 0, .int (0) 0, .int (3) 0, .ref 449, .bool true, .int (181) 0, .ref 450, .none, .none, .none, .ref 451, .int (876) 0, .int (648) 0, .str (S "/claim/cut.py") 877] }],
  [G "_law_instance" "_law_instance" (nth 60) (.str (S "law_sj0060_01") 848) 452],
  [U],
  [V],
  [Q "_law_module" "_law_module" (nth 61)],
  [{ cls := .type "code", data := .fields #[.str (S "_law_module") 879, .str (S "_law_module") 880, .str (S "/claim/cut.py") 881, .int (651) 0, .int (3) 0, .int (0) 0, .int (0) 0, .int (3) 0, .ref 454, .bool true, .int (181) 0, .ref 455, .none, .none, .none, .ref 456, .int (882) 0, .int (651) 0, .str (S "/claim/cut.py") 883] }],
  [G "_law_module" "_law_module" (nth 61) (.str (S "law_sj0060_01") 848) 457],
  D7 459 "_law_tables" "_law_tables" 885 672 0 [] (nth 62) (.str (S "law_sj0060_01") 848),
  [U],
  [V],
  [Q "_law_primitive_faults" "_law_primitive_faults" (nth 63)],
  [{ cls := .type "code", data := .fields #[.str (S "_law_primitive_faults") 891, .str (S "_law_primitive_faults") 892, .str (S "/claim/cut.py") 893, .int (674) 0, .int (2) 0, .int (0) 0, .int (0) 0, .int (3) 0, .ref 466, .bool true, .int (181) 0, .ref 467, .none, .none, .none, .ref 468, .int (894) 0, .int (674) 0, .str (S "/claim/cut.py") 895] }],
  [G "_law_primitive_faults" "_law_primitive_faults" (nth 63) (.str (S "law_sj0060_01") 848) 469],
  [U],
  [V],
  [Q "_law_module_faults" "_law_module_faults" (nth 64)],
  [{ cls := .type "code", data := .fields #[.str (S "_law_module_faults") 897, .str (S "_law_module_faults") 898, .str (S "/claim/cut.py") 899, .int (678) 0, .int (2) 0, .int (0) 0, .int (0) 0, .int (3) 0, .ref 471, .bool true, .int (181) 0, .ref 472, .none, .none, .none, .ref 473, .int (900) 0, .int (678) 0, .str (S "/claim/cut.py") 901] }],
  [G "_law_module_faults" "_law_module_faults" (nth 64) (.str (S "law_sj0060_01") 848) 474],
  [U],
  [V],
  [Q "law" "law" (nth 65)],
  [{ cls := .type "code", data := .fields #[.str (S "law") 903, .str (S "law") 904, .str (S "/claim/cut.py") 905, .int (709) 0, .int (1) 0, .int (0) 0, .int (0) 0, .int (3) 0, .ref 476, .bool true, .int (181) 0, .ref 477, .none, .none, .none, .ref 478, .int (906) 0, .int (709) 0, .str (S "/claim/cut.py") 907] }],
  [G "law" "law" (nth 65) (.str (S "law_sj0060_01") 848) 479]].flatten
noncomputable def ls0 (P : Params) : List Obj := base P (.str (S "__main__") 164) 0 0
noncomputable def ls1 (P : Params) : List Obj := base P (.str (S "gateloom.checknames") 187) 10 10 ++ (ob0 P)
noncomputable def ls2 (P : Params) : List Obj := base P (.str (S "gateloom.checkstmts") 442) 19 19 ++ (ob0 P ++ (ob1 P))
noncomputable def ls3 (P : Params) : List Obj := base P (.str (S "gateloom.checkstmts") 442) 27 27 ++ (ob0 P ++ (ob1 P ++ (ob2 P)))
noncomputable def ls4 (P : Params) : List Obj := base P (.str (S "gateloom.udps") 549) 36 36 ++ (ob0 P ++ (ob1 P ++ (ob2 P ++ (ob3 P))))
noncomputable def ls5 (P : Params) : List Obj := base P (.str (S "gateloom.checks") 688) 44 44 ++ (ob0 P ++ (ob1 P ++ (ob2 P ++ (ob3 P ++ (ob4 P)))))
noncomputable def ls6 (P : Params) : List Obj := base P (.str (S "gateloom.checks") 688) 52 52 ++ (ob0 P ++ (ob1 P ++ (ob2 P ++ (ob3 P ++ (ob4 P ++ (ob5 P))))))
noncomputable def ls7 (P : Params) : List Obj := base P (.str (S "law_sj0060_01") 848) 61 61 ++ (ob0 P ++ (ob1 P ++ (ob2 P ++ (ob3 P ++ (ob4 P ++ (ob5 P ++ (ob6 P)))))))
noncomputable abbrev pw : Program := PySem.Challenge.pw_sj0060_01
noncomputable def sg0 : List Stmt := (pw.main.body.drop 0).take 11
noncomputable def sg1 : List Stmt := (pw.main.body.drop 11).take 10
noncomputable def sg2 : List Stmt := (pw.main.body.drop 21).take 8
noncomputable def sg3 : List Stmt := (pw.main.body.drop 29).take 10
noncomputable def sg4 : List Stmt := (pw.main.body.drop 39).take 9
noncomputable def sg5 : List Stmt := (pw.main.body.drop 48).take 8
noncomputable def sg6 : List Stmt := (pw.main.body.drop 56).take 10
noncomputable def rs7 : List Stmt := []
noncomputable def rs6 : List Stmt := sg6 ++ rs7
noncomputable def rs5 : List Stmt := sg5 ++ rs6
noncomputable def rs4 : List Stmt := sg4 ++ rs5
noncomputable def rs3 : List Stmt := sg3 ++ rs4
noncomputable def rs2 : List Stmt := sg2 ++ rs3
noncomputable def rs1 : List Stmt := sg1 ++ rs2
noncomputable def rs0 : List Stmt := sg0 ++ rs1
noncomputable abbrev bod : List Stmt := rs0
noncomputable def env0 : Env := { scope := pw.main.scope, locals := 3, globals := 3, cells := [], code := .ref 13, frame := some 14 }
noncomputable def cod0 : Code := .body bod env0
noncomputable abbrev tst (T : List Obj) (n t : Nat) (os : OsState) : SharedT := ⟨tree0 T .nil 0, n, {}, Array.mk [], boot_drawn, t, os⟩
theorem pc0 (w : World) (os : OsState) : segRunT treeTable pw w 11 (some (.ref 6)) 1 962 (tst (ls0 w.params) 15 187 os) (piecesOf sg0 env0 cod0 ⟨0, 0, 0, 0⟩ [topFrame ⟨0, 0, 0, 0⟩]) = some (.next, tst (ls1 w.params) 120 356 os, cod0, ⟨95, 0, 117, 40⟩) := by kernel_rfl
theorem pc1 (w : World) (os : OsState) : segRunT treeTable pw w 11 (some (.ref 6)) 1 507 (tst (ls1 w.params) 120 356 os) (piecesOf sg1 env0 cod0 ⟨95, 0, 117, 40⟩ [topFrame ⟨0, 0, 0, 0⟩]) = some (.next, tst (ls2 w.params) 185 456 os, cod0, ⟨186, 0, 207, 43⟩) := by kernel_rfl
theorem pc2 (w : World) (os : OsState) : segRunT treeTable pw w 11 (some (.ref 6)) 1 469 (tst (ls2 w.params) 185 456 os) (piecesOf sg2 env0 cod0 ⟨186, 0, 207, 43⟩ [topFrame ⟨0, 0, 0, 0⟩]) = some (.next, tst (ls3 w.params) 241 549 os, cod0, ⟨300, 0, 317, 46⟩) := by kernel_rfl
theorem pc3 (w : World) (os : OsState) : segRunT treeTable pw w 11 (some (.ref 6)) 1 698 (tst (ls3 w.params) 241 549 os) (piecesOf sg3 env0 cod0 ⟨300, 0, 317, 46⟩ [topFrame ⟨0, 0, 0, 0⟩]) = some (.next, tst (ls4 w.params) 318 671 os, cod0, ⟨413, 0, 427, 16⟩) := by kernel_rfl
theorem pc4 (w : World) (os : OsState) : segRunT treeTable pw w 11 (some (.ref 6)) 1 467 (tst (ls4 w.params) 318 671 os) (piecesOf sg4 env0 cod0 ⟨413, 0, 427, 16⟩ [topFrame ⟨0, 0, 0, 0⟩]) = some (.next, tst (ls5 w.params) 374 755 os, cod0, ⟨522, 0, 530, 43⟩) := by kernel_rfl
theorem pc5 (w : World) (os : OsState) : segRunT treeTable pw w 11 (some (.ref 6)) 1 469 (tst (ls5 w.params) 374 755 os) (piecesOf sg5 env0 cod0 ⟨522, 0, 530, 43⟩ [topFrame ⟨0, 0, 0, 0⟩]) = some (.next, tst (ls6 w.params) 430 848 os, cod0, ⟨610, 0, 631, 25⟩) := by kernel_rfl
theorem pc6 (w : World) (os : OsState) : segRunT treeTable pw w 11 (some (.ref 6)) 1 454 (tst (ls6 w.params) 430 848 os) (piecesOf sg6 env0 cod0 ⟨610, 0, 631, 25⟩ [topFrame ⟨0, 0, 0, 0⟩]) = some (.next, tst (ls7 w.params) 481 909 os, cod0, ⟨709, 0, 742, 97⟩) := by kernel_rfl
theorem pre0 (w : World) (os : OsState) : topGo treeTable pw w 11 (some (.ref 6)) 12 ⟨boot_heap w.params, Array.mk [], boot_drawn, boot_toks, os⟩ (topStub pw) = some ((tst (ls0 w.params) 15 187 os).abs, ⟨denote treeTable cod0, cod0, ⟨0, 0, 0, 0⟩, [topFrame ⟨0, 0, 0, 0⟩]⟩) := by kernel_rfl
theorem blk0 (w : World) (os : OsState) : segRun treeTable pw w 11 (some (.ref 6)) 1 1 (tst (ls0 w.params) 15 187 os).abs (blockOf bod env0 cod0 ⟨0, 0, 0, 0⟩ [topFrame ⟨0, 0, 0, 0⟩]) = some (.next, (tst (ls0 w.params) 15 187 os).abs, cod0, ⟨0, 0, 0, 0⟩) := by kernel_rfl
theorem fin0 (w : World) (os : OsState) : topRun treeTable pw w 11 (some (.ref 6)) 3 (tst (ls7 w.params) 481 909 os).abs ⟨doneF .next, cod0, ⟨709, 0, 742, 97⟩, [topFrame ⟨0, 0, 0, 0⟩]⟩ = some (tst (ls7 w.params) 481 909 os).abs := by kernel_rfl
theorem ch7 (w : World) (os : OsState) : topRun treeTable pw w 11 (some (.ref 6)) 3 (tst (ls7 w.params) 481 909 os).abs (restOf rs7 env0 cod0 ⟨709, 0, 742, 97⟩ [topFrame ⟨0, 0, 0, 0⟩]) = some (tst (ls7 w.params) 481 909 os).abs :=
  piece_nil (fin0 w os)
theorem ch6 (w : World) (os : OsState) : topRun treeTable pw w 11 (some (.ref 6)) (454 + 3) (tst (ls6 w.params) 430 848 os).abs (restOf rs6 env0 cod0 ⟨610, 0, 631, 25⟩ [topFrame ⟨0, 0, 0, 0⟩]) = some (tst (ls7 w.params) 481 909 os).abs :=
  piece_app (segRun_of (pc6 w os)) (ch7 w os)
theorem ch5 (w : World) (os : OsState) : topRun treeTable pw w 11 (some (.ref 6)) (469 + (454 + 3)) (tst (ls5 w.params) 374 755 os).abs (restOf rs5 env0 cod0 ⟨522, 0, 530, 43⟩ [topFrame ⟨0, 0, 0, 0⟩]) = some (tst (ls7 w.params) 481 909 os).abs :=
  piece_app (segRun_of (pc5 w os)) (ch6 w os)
theorem ch4 (w : World) (os : OsState) : topRun treeTable pw w 11 (some (.ref 6)) (467 + (469 + (454 + 3))) (tst (ls4 w.params) 318 671 os).abs (restOf rs4 env0 cod0 ⟨413, 0, 427, 16⟩ [topFrame ⟨0, 0, 0, 0⟩]) = some (tst (ls7 w.params) 481 909 os).abs :=
  piece_app (segRun_of (pc4 w os)) (ch5 w os)
theorem ch3 (w : World) (os : OsState) : topRun treeTable pw w 11 (some (.ref 6)) (698 + (467 + (469 + (454 + 3)))) (tst (ls3 w.params) 241 549 os).abs (restOf rs3 env0 cod0 ⟨300, 0, 317, 46⟩ [topFrame ⟨0, 0, 0, 0⟩]) = some (tst (ls7 w.params) 481 909 os).abs :=
  piece_app (segRun_of (pc3 w os)) (ch4 w os)
theorem ch2 (w : World) (os : OsState) : topRun treeTable pw w 11 (some (.ref 6)) (469 + (698 + (467 + (469 + (454 + 3))))) (tst (ls2 w.params) 185 456 os).abs (restOf rs2 env0 cod0 ⟨186, 0, 207, 43⟩ [topFrame ⟨0, 0, 0, 0⟩]) = some (tst (ls7 w.params) 481 909 os).abs :=
  piece_app (segRun_of (pc2 w os)) (ch3 w os)
theorem ch1 (w : World) (os : OsState) : topRun treeTable pw w 11 (some (.ref 6)) (507 + (469 + (698 + (467 + (469 + (454 + 3)))))) (tst (ls1 w.params) 120 356 os).abs (restOf rs1 env0 cod0 ⟨95, 0, 117, 40⟩ [topFrame ⟨0, 0, 0, 0⟩]) = some (tst (ls7 w.params) 481 909 os).abs :=
  piece_app (segRun_of (pc1 w os)) (ch2 w os)
theorem ch0 (w : World) (os : OsState) : topRun treeTable pw w 11 (some (.ref 6)) (962 + (507 + (469 + (698 + (467 + (469 + (454 + 3))))))) (tst (ls0 w.params) 15 187 os).abs (restOf rs0 env0 cod0 ⟨0, 0, 0, 0⟩ [topFrame ⟨0, 0, 0, 0⟩]) = some (tst (ls7 w.params) 481 909 os).abs :=
  piece_app (segRun_of (pc0 w os)) (ch1 w os)
noncomputable def H1 (P : Params) : Heap := absHeap (tree0 (ls7 P) .nil 0) 481 {}
theorem abs1 (w : World) (os : OsState) : some (tst (ls7 w.params) 481 909 os).abs = some (⟨H1 w.params, Array.mk [], boot_drawn, 909, os⟩ : Shared) := by kernel_rfl
theorem run0 (w : World) (os : OsState) : topRun treeTable pw w 11 (some (.ref 6)) (12 + (1 + (962 + (507 + (469 + (698 + (467 + (469 + (454 + 3))))))))) ⟨boot_heap w.params, Array.mk [], boot_drawn, boot_toks, os⟩ (topStub pw) = some ⟨H1 w.params, Array.mk [], boot_drawn, 909, os⟩ :=
  (go_top (pre0 w os) (piece_block (blk0 w os) (ch0 w os))).trans (abs1 w os)
theorem bo1 : opening PySem.Challenge.pw_sj0060_01 = plainProg PySem.Challenge.pw_sj0060_01.main.scope.names := by kernel_rfl
theorem bo2 : ∀ s, fenceModules? PySem.Challenge.pw_sj0060_01 s = some s := by intro s; kernel_rfl
theorem siz0 (w : World) : ((boot_heap w.params).isNs mainGlobals && (Array.mk [] : Array GenState).size == 0, (boot_heap w.params).objs.size, (boot_heap w.params).nsMap mainGlobals "__annotations__") = (true, 11, some (.ref 6)) := by kernel_rfl
theorem lk1 (w : World) (os : OsState) : (staticsOk (importedModules pw.main.body) (boot_heap w.params) (H1 w.params) && namesBound pw (H1 w.params) && gensDone ⟨H1 w.params, Array.mk [], boot_drawn, 909, os⟩ && laidKept (boot_heap w.params) (H1 w.params)) = true := by kernel_rfl
theorem lk2 (w : World) (os : OsState) : openSeen view lose (importedModules pw.main.body) (fun s => xlAt view [] s && recOk [] s) true ⟨H1 w.params, Array.mk [], boot_drawn, 909, os⟩ = openGood view lose := by kernel_rfl
theorem lk3 (w : World) (os : OsState) : Hook.obs hook ⟨H1 w.params, Array.mk [], boot_drawn, 909, os⟩ = Hook.val hook w := by kernel_rfl
theorem left : LeftO PySem.Challenge.pw_sj0060_01 view lose (fun s => xlAt view [] s && recOk [] s) (Hook.obs hook) (Hook.val hook) 5378 :=
  LeftO.of_pieces (boot_open bo1 (by decide) bo2) siz0 run0 (by decide) (fun w => funext fun os => Prod.ext (lk1 w os) (Prod.ext (lk2 w os) (lk3 w os)))
end Mine
namespace Mine

/-! abstract values and objects -/
inductive AV where
  | none
  | bool (b : Bool)
  | int (i : Int)
  | str (s : PySem.Str)
  | ref (a : Addr)
  | typ (n : String)
  | blt (n : String)

inductive VR : AV → Value → Prop
  | none : VR .none .none
  | bool (b : Bool) : VR (.bool b) (.bool b)
  | int (i : Int) (t : Tok) : VR (.int i) (.int i t)
  | str (s : PySem.Str) (t : Tok) : VR (.str s) (.str s t)
  | ref (a : Addr) : VR (.ref a) (.ref a)
  | typ (n : String) : VR (.typ n) (.type n)
  | blt (n : String) : VR (.blt n) (.builtin n)

inductive VRs : List AV → List Value → Prop
  | nil : VRs [] []
  | cons {a v as vs} : VR a v → VRs as vs → VRs (a :: as) (v :: vs)

inductive AO where
  | list (l : List AV)
  | tup (l : List AV)
  | dict (l : List (PySem.Str × AV))
  | idict (l : List (PySem.Str × AV))
  | inst (C dx : Addr)
  | rng (a b : Int)
  | tab (ps : Array Value)
  | code (q : PySem.Str)

inductive ER (w : World) : (PySem.Str × AV) → DictEntry → Prop
  | mk (x : PySem.Str) (t : Tok) {a : AV} {v : Value} : VR a v → ER w (x, a) ⟨PyData.keyHash w.params x, .str x t, v⟩
inductive ERs (w : World) : List (PySem.Str × AV) → List DictEntry → Prop
  | nil : ERs w [] []
  | cons {p e ps es} : ER w p e → ERs w ps es → ERs w (p :: ps) (e :: es)

inductive KVR : List (PySem.Str × AV) → List (PySem.Str × Value) → Prop
  | nil : KVR [] []
  | cons {x a v l k} : VR a v → KVR l k → KVR ((x, a) :: l) ((x, v) :: k)

inductive OR (prog : Program) (w : World) : AO → Obj → Prop
  | list {l vs} (n : Nat) : VRs l vs → OR prog w (.list l) (listOf vs.toArray n)
  | tup {l vs} (n : Nat) : VRs l vs → OR prog w (.tup l) { cls := .type "tuple", data := .seq vs.toArray n }
  | dict {l kvs o es ep} : o.ExactDict → o.data = .dict es ep → KeysOf (PySem.strKind prog w) es → Pairs (PySem.strKind prog w) es.toList kvs → (kvs.map (·.1)).Nodup → KVR l kvs → OR prog w (.dict l) o
  | idict {l es} (n : Nat) : ERs w l es → OR prog w (.idict l) (dictOf es n)
  | inst (C dx : Addr) : OR prog w (.inst C dx) (instObj C dx)
  | tab (ps : Array Value) : OR prog w (.tab ps) { cls := .none, data := .fields ps }
  | code (q : PySem.Str) (t : Tok) {o : Obj} {vs : Array Value} : o.data = .fields vs → vs[1]? = some (.str q t) → OR prog w (.code q) o
  | rng (a b : Int) (t u v : Tok) : OR prog w (.rng a b) { cls := .type "range", data := .fields #[.int a t, .int b u, .int 1 v] }

noncomputable abbrev Store := Addr → Option AO
noncomputable def upd (σ : Store) (a : Addr) (o : AO) : Store := fun b => if b = a then some o else σ b
noncomputable abbrev Loc := List (PySem.Str × AV)
noncomputable def put (x : PySem.Str) (v : AV) : Loc → Loc
  | [] => [(x, v)]
  | (y, u) :: r => if y = x then (x, v) :: r else (y, u) :: put x v r
noncomputable def get (x : PySem.Str) : Loc → Option AV
  | [] => none
  | (y, u) :: r => if y = x then some u else get x r
theorem get_put (x : PySem.Str) (v : AV) (y : PySem.Str) : ∀ m : Loc, get y (put x v m) = if y = x then some v else get y m
  | [] => by
    unfold put get get
    by_cases h : y = x
    · simp [h]
    · simp [h, Ne.symm h]
  | (z, u) :: r => by
    unfold put
    by_cases h : z = x
    · subst h
      simp only [if_pos, get]
      by_cases q : z = y
      · subst q; simp
      · simp [q, Ne.symm q]
    · rw [if_neg h]
      unfold get
      rw [get_put x v y r]
      by_cases q : z = y
      · subst q; simp [h]
      · simp [q]

/-- the core: a frame's namespace, a ledger that bears the hidden objects and the store -/
noncomputable def Co (prog : Program) (w : World) (h₀ : Heap) (L : Addr) (mh : PySem.Str → Option Value) (fr : List (Addr × Obj)) (σ : Store) (h : Heap) : Prop :=
  ∃ news : List (Addr × Obj), Fr h₀ L h mh ∧ News h₀ L h news ∧ (∀ p ∈ fr, p ∈ news ∧ σ p.1 = none) ∧ (∀ a o, σ a = some o → ∃ ro, (a, ro) ∈ news ∧ OR prog w o ro) ∧ sysModules < h₀.objs.size ∧ ∀ a o, σ a = some o → sysModules < a

structure Ctx where
  h₀ : Heap
  base : Heap
  L : Addr
  A : Around
  A₀ : Around
  outer : List Env
  fe : Env
  p : Program
  loose : List PySem.Str
  mean : ExcName → Option Value
  mg : PySem.Str → Option Value
  mb : PySem.Str → Option Value
  d : Nat

structure Ctx.Ok (K : Frag) (C : Ctx) : Prop where
  B : Below C.A₀ C.base C.outer C.h₀
  X : K.In C.h₀
  T : Top C.p C.loose C.mean C.mg C.mb C.h₀
  hh : C.A.handled = none
  hf : C.A.frames = some (C.fe :: C.outer)
  hL : C.fe.frame = some C.L
  hke : C.fe.scope.kind = .function
  hd : C.A.depth + 2 * C.d < recursionLimit
  hu : C.A.units + 20 * C.d + 20 < cLine

/-- a frame, or a comprehension's block within one: its names' home is told by NR -/
structure Fm where
  C : Ctx
  env : Env
  NR : (PySem.Str → Option Value) → List (Addr × Obj) → Loc → Prop

/-- own objects and hidden ones lie apart -/
noncomputable def Dj (own fr : List (Addr × Obj)) : Prop := ∀ p ∈ own, ∀ q ∈ fr, p.1 ≠ q.1
noncomputable def St (prog : Program) (w : World) (F : Fm) (fr : List (Addr × Obj)) (σ : Store) (m : Loc) (h : Heap) : Prop :=
  ∃ mh own, (F.NR mh own m ∧ Dj own fr) ∧ Co prog w F.C.h₀ F.C.L mh (own ++ fr) σ h

structure Fm.Ok (K : Frag) (F : Fm) : Prop extends Ctx.Ok K F.C where
  gl : F.env.globals = mainGlobals
  bl : F.env.builtins = builtinsNs
  ek : F.env.scope.kind = .function
  mono : ∀ mh own m m', F.NR mh own m → (∀ x v, get x m' = some v → get x m = some v) → F.NR mh own m'

noncomputable def NRf : Option (PySem.Str × Addr) → (PySem.Str → Option Value) → List (Addr × Obj) → Loc → Prop
  | none, mh, own, m => own = [] ∧ ∀ y v, get y m = some v → ∃ u, mh y = some u ∧ VR v u
  | some (x, c), mh, own, m => ∃ o vo, own = [(c, o)] ∧ o.data = .cell vo ∧ ∀ y v, get y m = some v → ∃ u, (if y = x then vo = some u else mh y = some u) ∧ VR v u

noncomputable abbrev frE (C : Ctx) (q : PySem.Str) (f : Addr) (cd : Value) (sc : Scope) (cl : Option (PySem.Str × Addr)) : Env := envX q sc C.L f cd cl.toList
/-- the frame of a def of scope sc, with one cell or none -/
structure Fn where
  C : Ctx
  q : PySem.Str
  f : Addr
  cd : Value
noncomputable abbrev Fn.fm (c : Fn) (sc : Scope) (cl : Option (PySem.Str × Addr)) : Fm := ⟨c.C, frE c.C c.q c.f c.cd sc cl, NRf cl⟩

/-- a tree, from an abstract state: it ends, in an abstract state, with a value in relation -/
noncomputable def Tr {α β : Type} (R : β → α → Prop) (prog : Program) (w : World) (F : Fm) (σ : Store) (m : Loc) (t : Sem α) (Q : β → Store → Prop) : Prop :=
  ∀ (fr : List (Addr × Obj)) (s : Shared) (Q' : α → Shared → Prop) (E : Value → Shared → Prop), St prog w F fr σ m s.heap →
    (∀ x y h' tk σ', R y x → St prog w F fr σ' m h' → Q y σ' → Q' x { s with heap := h', toks := tk }) → wpAny (model prog w) F.C.A t Q' E s

inductive Fl where
  | next | brk | cont
  | ret (v : AV)
inductive FR : Fl → Flow → Prop
  | next : FR .next .next
  | brk : FR .brk .brk
  | cont : FR .cont .cont
  | ret {a v} : VR a v → FR (.ret a) (.ret v)

noncomputable def TrS (prog : Program) (w : World) (F : Fm) (σ : Store) (m : Loc) (t : Sem Flow) (Q : Fl → Store → Loc → Prop) : Prop :=
  ∀ (fr : List (Addr × Obj)) (s : Shared) (Q' : Flow → Shared → Prop) (E : Value → Shared → Prop), St prog w F fr σ m s.heap →
    (∀ x y h' tk σ' m', FR y x → St prog w F fr σ' m' h' → Q y σ' m' → Q' x { s with heap := h', toks := tk }) → wpAny (model prog w) F.C.A t Q' E s

variable {prog : Program} {w : World} {K : Frag} {F : Fm} {σ : Store} {m : Loc}

section
variable (prog w F σ m)
noncomputable def Ev (e : PySem.Expr) (Q : AV → Store → Prop) : Prop := Tr VR prog w F σ m (eval e F.env) Q
noncomputable def EvL (es : List PySem.Expr) (Q : List AV → Store → Prop) : Prop := ∀ pos, Tr VRs prog w F σ m (spliced (backTo pos (starEach es F.env))) Q
noncomputable def Ts (e : PySem.Expr) (Q : Bool → Store → Prop) : Prop := Tr Eq prog w F σ m (isTrue e F.env (eval e F.env)) Q
noncomputable def Ex (sts : List Stmt) (Q : Fl → Store → Loc → Prop) : Prop := TrS prog w F σ m (execs sts F.env) Q
noncomputable def Ex1 (st : Stmt) (Q : Fl → Store → Loc → Prop) : Prop := TrS prog w F σ m (exec st F.env) Q
end

theorem Tr.mono {α β : Type} {R : β → α → Prop} {t : Sem α} {Q Q₂ : β → Store → Prop} (h : Tr R prog w F σ m t Q) (hq : ∀ y σ', Q y σ' → Q₂ y σ') : Tr R prog w F σ m t Q₂ :=
  fun fr s Q' E S k => h fr s Q' E S fun x y h' tk σ' r S' q => k x y h' tk σ' r S' (hq y σ' q)
theorem TrS.mono {t : Sem Flow} {Q Q₂ : Fl → Store → Loc → Prop} (h : TrS prog w F σ m t Q) (hq : ∀ y σ' m', Q y σ' m' → Q₂ y σ' m') : TrS prog w F σ m t Q₂ :=
  fun fr s Q' E S k => h fr s Q' E S fun x y h' tk σ' m' r S' q => k x y h' tk σ' m' r S' (hq y σ' m' q)

theorem Co.drop {h₀ : Heap} {L : Addr} {mh : PySem.Str → Option Value} {fr : List (Addr × Obj)} {σ' : Store} {h : Heap} (S : Co prog w h₀ L mh fr σ h) (hs : ∀ a o, σ' a = some o → σ a = some o) : Co prog w h₀ L mh fr σ' h := by
  obtain ⟨news, F, N, h2, h3, hb, h4⟩ := S
  refine ⟨news, F, N, fun p hp => ⟨(h2 p hp).1, ?_⟩, fun a o e => h3 a o (hs a o e), hb, fun a o e => h4 a o (hs a o e)⟩
  cases q : σ' p.1 with
  | none => rfl
  | some o => have := hs _ _ q; rw [(h2 p hp).2] at this; cases this
theorem Co.less {h₀ : Heap} {L : Addr} {mh : PySem.Str → Option Value} {fr fr' : List (Addr × Obj)} {h : Heap} (S : Co prog w h₀ L mh fr σ h) (hs : ∀ p ∈ fr', p ∈ fr) : Co prog w h₀ L mh fr' σ h := by
  obtain ⟨news, F, N, h2, h3, hb, h4⟩ := S
  exact ⟨news, F, N, fun p hp => h2 p (hs p hp), h3, hb, h4⟩
theorem Co.at {h₀ : Heap} {L : Addr} {mh : PySem.Str → Option Value} {fr : List (Addr × Obj)} {h : Heap} {a : Addr} {o : AO} (S : Co prog w h₀ L mh fr σ h) (e : σ a = some o) : ∃ ro, h.get? a = some ro ∧ OR prog w o ro := by
  obtain ⟨news, F, N, h2, h3, hb, h4⟩ := S
  obtain ⟨ro, hm, r⟩ := h3 a o e
  exact ⟨ro, (N _ hm).1, r⟩
theorem Co.frAt {h₀ : Heap} {L : Addr} {mh : PySem.Str → Option Value} {fr : List (Addr × Obj)} {h : Heap} {p : Addr × Obj} (S : Co prog w h₀ L mh fr σ h) (e : p ∈ fr) : h.get? p.1 = some p.2 := by
  obtain ⟨news, F, N, h2, h3, hb, h4⟩ := S
  exact (N _ (h2 p e).1).1
theorem Co.alloc {h₀ : Heap} {L : Addr} {mh : PySem.Str → Option Value} {fr : List (Addr × Obj)} {h : Heap} {o : AO} {ro : Obj} (S : Co prog w h₀ L mh fr σ h) (r : OR prog w o ro) (hf : ro.isFreed = false) :
    σ h.objs.size = none ∧ Co prog w h₀ L mh fr (upd σ h.objs.size o) (h.push ro) := by
  obtain ⟨news, F, N, h2, h3, hb, h4⟩ := S
  have fresh : σ h.objs.size = none := by
    cases q : σ h.objs.size with
    | none => rfl
    | some o' =>
      obtain ⟨ro', hm, _⟩ := h3 _ _ q
      exact absurd (Heap.lt_size (N _ hm).1) (Nat.lt_irrefl _)
  refine ⟨fresh, (h.objs.size, ro) :: news, F.push _, N.push F _ hf, fun p hp => ⟨.tail _ (h2 p hp).1, ?_⟩, fun a o' e => ?_, hb, fun a o' e => ?_⟩
  · have : p.1 ≠ h.objs.size := Nat.ne_of_lt (Heap.lt_size (N _ (h2 p hp).1).1)
    unfold upd
    rw [if_neg this]
    exact (h2 p hp).2
  · unfold upd at e
    by_cases q : a = h.objs.size
    · rw [if_pos q] at e; cases e
      subst q
      exact ⟨ro, .head _, r⟩
    · rw [if_neg q] at e
      obtain ⟨ro', hm, r'⟩ := h3 _ _ e
      exact ⟨ro', .tail _ hm, r'⟩
  · unfold upd at e
    by_cases q : a = h.objs.size
    · rw [q]; exact Nat.lt_of_lt_of_le hb (Nat.le_trans F.above (Nat.le_of_lt F.ns.lt))
    · rw [if_neg q] at e
      exact h4 _ _ e
/-- a hidden object is made -/
theorem Co.hide {h₀ : Heap} {L : Addr} {mh : PySem.Str → Option Value} {fr : List (Addr × Obj)} {h : Heap} {ro : Obj} (S : Co prog w h₀ L mh fr σ h) (hf : ro.isFreed = false) : Co prog w h₀ L mh ((h.objs.size, ro) :: fr) σ (h.push ro) := by
  obtain ⟨news, F, N, h2, h3, hb, h4⟩ := S
  refine ⟨(h.objs.size, ro) :: news, F.push _, N.push F _ hf, fun p hp => ?_, fun a o' e => ?_, hb, h4⟩
  · rcases List.mem_cons.mp hp with rfl | hp
    · refine ⟨.head _, ?_⟩
      cases q : σ h.objs.size with
      | none => rfl
      | some o' =>
        obtain ⟨ro', hm, _⟩ := h3 _ _ q
        exact absurd (Heap.lt_size (N _ hm).1) (Nat.lt_irrefl _)
    · exact ⟨.tail _ (h2 p hp).1, (h2 p hp).2⟩
  · obtain ⟨ro', hm, r'⟩ := h3 _ _ e
    exact ⟨ro', .tail _ hm, r'⟩
/-- one object of the store is turned -/
theorem Co.update {h₀ : Heap} {L : Addr} {mh : PySem.Str → Option Value} {fr : List (Addr × Obj)} {h h' : Heap} {a : Addr} {o o' : AO} {ro' : Obj} (S : Co prog w h₀ L mh fr σ h) (e : σ a = some o) (hs : Heap.SameBut a h h') (hg : h'.get? a = some ro') (r : OR prog w o' ro') :
    Co prog w h₀ L mh fr (upd σ a o') h' := by
  obtain ⟨news, F, N, h2, h3, hb, h4⟩ := S
  obtain ⟨ro, hm, r₀⟩ := h3 a o e
  have na := N _ hm
  refine ⟨(a, ro') :: news.filter (fun p => p.1 != a), kas_fr F hs na.2.1 na.2.2, fun p hp => ?_, fun p hp => ⟨?_, ?_⟩, fun b o₂ eb => ?_, hb, fun b o₂ eb => ?_⟩
  · rcases List.mem_cons.mp hp with rfl | hp
    · exact ⟨hg, na.2⟩
    · obtain ⟨hp, hne⟩ := List.mem_filter.mp hp
      exact ⟨(hs.2 p.1 (by simpa using hne)).trans (N p hp).1, (N p hp).2⟩
  · have hne : p.1 ≠ a := fun q => by have := (h2 p hp).2; rw [q, e] at this; cases this
    exact .tail _ (List.mem_filter.mpr ⟨(h2 p hp).1, by simpa using hne⟩)
  · have hne : p.1 ≠ a := fun q => by have := (h2 p hp).2; rw [q, e] at this; cases this
    unfold upd
    rw [if_neg hne]; exact (h2 p hp).2
  · unfold upd at eb
    by_cases q : b = a
    · rw [if_pos q] at eb; cases eb; subst q
      exact ⟨ro', .head _, r⟩
    · rw [if_neg q] at eb
      obtain ⟨ro₂, hm₂, r₂⟩ := h3 _ _ eb
      exact ⟨ro₂, .tail _ (List.mem_filter.mpr ⟨hm₂, by simpa using q⟩), r₂⟩
  · unfold upd at eb
    by_cases q : b = a
    · rw [q]; exact h4 _ _ e
    · rw [if_neg q] at eb
      exact h4 _ _ eb
/-- a hidden object is turned -/
theorem Co.updFr {h₀ : Heap} {L : Addr} {mh : PySem.Str → Option Value} {fr₁ fr₂ : List (Addr × Obj)} {h h' : Heap} {a : Addr} {o o' : Obj} (S : Co prog w h₀ L mh (fr₁ ++ (a, o) :: fr₂) σ h) (hn : ∀ p ∈ fr₁ ++ fr₂, p.1 ≠ a) (hs : Heap.SameBut a h h') (hg : h'.get? a = some o') :
    Co prog w h₀ L mh (fr₁ ++ (a, o') :: fr₂) σ h' := by
  obtain ⟨news, F, N, h2, h3, hb, h4⟩ := S
  have ha := h2 (a, o) (by simp)
  have na := N _ ha.1
  have key : ∀ p, p ∈ news → p.1 ≠ a → p ∈ (a, o') :: news.filter (fun p => p.1 != a) := fun p hp hne => .tail _ (List.mem_filter.mpr ⟨hp, by simpa using hne⟩)
  refine ⟨(a, o') :: news.filter (fun p => p.1 != a), kas_fr F hs na.2.1 na.2.2, fun p hp => ?_, fun p hp => ?_, fun b o₂ eb => ?_, hb, h4⟩
  · rcases List.mem_cons.mp hp with rfl | hp
    · exact ⟨hg, na.2⟩
    · obtain ⟨hp, hne⟩ := List.mem_filter.mp hp
      exact ⟨(hs.2 p.1 (by simpa using hne)).trans (N p hp).1, (N p hp).2⟩
  · rcases List.mem_append.mp hp with q | q
    · have z := h2 p (List.mem_append_left _ q)
      exact ⟨key p z.1 (hn p (List.mem_append_left _ q)), z.2⟩
    · rcases List.mem_cons.mp q with rfl | q
      · exact ⟨.head _, ha.2⟩
      · have z := h2 p (List.mem_append_right _ (.tail _ q))
        exact ⟨key p z.1 (hn p (List.mem_append_right _ q)), z.2⟩
  · obtain ⟨ro₂, hm₂, r₂⟩ := h3 _ _ eb
    have hne : b ≠ a := fun q => by have := ha.2; rw [← q] at this; rw [show (σ b) = none from this] at eb; cases eb
    exact ⟨ro₂, key _ hm₂ hne, r₂⟩

theorem St.drop {fr : List (Addr × Obj)} {σ' : Store} {m' : Loc} {h : Heap} (O : F.Ok K) (S : St prog w F fr σ m h) (hs : ∀ a o, σ' a = some o → σ a = some o) (hm : ∀ x v, get x m' = some v → get x m = some v) : St prog w F fr σ' m' h := by
  obtain ⟨mh, own, n, c⟩ := S
  exact ⟨mh, own, ⟨O.mono _ _ _ _ n.1 hm, n.2⟩, c.drop hs⟩
theorem St.at {fr : List (Addr × Obj)} {h : Heap} {a : Addr} {o : AO} (S : St prog w F fr σ m h) (e : σ a = some o) : ∃ ro, h.get? a = some ro ∧ OR prog w o ro := by
  obtain ⟨mh, own, n, c⟩ := S
  exact c.at e
theorem St.notMod {fr : List (Addr × Obj)} {h : Heap} {a : Addr} {o : AO} (S : St prog w F fr σ m h) (e : σ a = some o) : (a == sysModules) = false := by
  obtain ⟨mh, own, n, news, F, N, h2, h3, hb, h4⟩ := S
  exact beq_eq_false_iff_ne.mpr (Nat.ne_of_gt (h4 a o e))
theorem St.alloc {fr : List (Addr × Obj)} {h : Heap} {o : AO} {ro : Obj} (S : St prog w F fr σ m h) (r : OR prog w o ro) (hf : ro.isFreed = false) : σ h.objs.size = none ∧ St prog w F fr (upd σ h.objs.size o) m (h.push ro) := by
  obtain ⟨mh, own, n, c⟩ := S
  exact ⟨(c.alloc r hf).1, mh, own, n, (c.alloc r hf).2⟩
theorem St.update {fr : List (Addr × Obj)} {h h' : Heap} {a : Addr} {o o' : AO} {ro' : Obj} (S : St prog w F fr σ m h) (e : σ a = some o) (hs : Heap.SameBut a h h') (hg : h'.get? a = some ro') (r : OR prog w o' ro') : St prog w F fr (upd σ a o') m h' := by
  obtain ⟨mh, own, n, c⟩ := S
  exact ⟨mh, own, n, c.update e hs hg r⟩
theorem St.hide {fr : List (Addr × Obj)} {h : Heap} {ro : Obj} (S : St prog w F fr σ m h) (hf : ro.isFreed = false) : St prog w F ((h.objs.size, ro) :: fr) σ m (h.push ro) := by
  obtain ⟨mh, own, n, c⟩ := S
  refine ⟨mh, own, ⟨n.1, fun p hp q hq => ?_⟩, (c.hide hf).less fun p hp => ?_⟩
  · rcases List.mem_cons.mp hq with rfl | hq
    · exact Nat.ne_of_lt (Heap.lt_size (c.frAt (List.mem_append_left _ hp)))
    · exact n.2 p hp q hq
  simp only [List.mem_append, List.mem_cons] at hp ⊢
  rcases hp with h | h | h <;> simp [h]
theorem St.less {fr fr' : List (Addr × Obj)} {h : Heap} (S : St prog w F fr σ m h) (hs : ∀ p ∈ fr', p ∈ fr) : St prog w F fr' σ m h := by
  obtain ⟨mh, own, n, c⟩ := S
  refine ⟨mh, own, ⟨n.1, fun p hp q hq => n.2 p hp q (hs q hq)⟩, c.less fun p hp => ?_⟩
  simp only [List.mem_append] at hp ⊢
  rcases hp with h | h
  · exact .inl h
  · exact .inr (hs p h)
theorem St.frAt {fr : List (Addr × Obj)} {h : Heap} {p : Addr × Obj} (S : St prog w F fr σ m h) (e : p ∈ fr) : h.get? p.1 = some p.2 := by
  obtain ⟨mh, own, n, c⟩ := S
  exact c.frAt (List.mem_append_right _ e)

/-! expressions -/
theorem NRf.get {cl : Option (PySem.Str × Addr)} {mh : PySem.Str → Option Value} {own : List (Addr × Obj)} {x : PySem.Str} {v : AV} (h : NRf cl mh own m) (hv : get x m = some v) : ∃ u, VR v u ∧ ((cl.all fun p => !(decide (x = p.1))) = true → mh x = some u) ∧ (∀ c, cl = some (x, c) → ∃ o, (c, o) ∈ own ∧ o.data = .cell (some u)) := by
  match cl, h with
  | none, ⟨h1, h2⟩ =>
    obtain ⟨u, a, b⟩ := h2 x v hv
    exact ⟨u, b, fun _ => a, fun c e => nomatch e⟩
  | some (y, c), ⟨o, vo, h1, h2, h3⟩ =>
    obtain ⟨u, a, b⟩ := h3 x v hv
    refine ⟨u, b, fun q => ?_, fun c' e => ?_⟩
    · have : x ≠ y := by simpa using q
      rw [if_neg this] at a; exact a
    · cases e
      rw [if_pos rfl] at a
      exact ⟨o, by rw [h1]; exact .head _, by rw [h2, a]⟩

theorem ev_local {c : Fn} {sc : Scope} {cl : Option (PySem.Str × Addr)} {x : PySem.Str} {pos : Pos} {v : AV} {Q : AV → Store → Prop} (hv : get x m = some v) (h : Q v σ) (hl : sc.names.lookup x = some .local := by rfl) (hc : (cl.all fun p => !(decide (x = p.1))) = true := by rfl) (hk : sc.kind = .function := by rfl)
    (hd : (x == ("__debug__" : PySem.Str)) = false := by rfl) : Ev prog w (c.fm sc cl) σ m (.Name x pos) Q := by
  intro fr s Q' E S k
  obtain ⟨mh, own, n, news, F, N, h2, h3, hb, h4⟩ := id S
  obtain ⟨u, r, hu, _⟩ := NRf.get n.1 hv
  exact wpAny_Name (wpAny_loadName_local (env := frE c.C c.q c.f c.cd sc cl) hk hl F.ns (hu hc) (k u v s.heap s.toks σ r S h)) hd

theorem ev_cell {c : Fn} {sc : Scope} {a : Addr} {x : PySem.Str} {pos : Pos} {v : AV} {Q : AV → Store → Prop} (hv : get x m = some v) (h : Q v σ) (hl : sc.names.lookup x = some .cell := by rfl) (hk : sc.kind = .function := by rfl)
    (hd : (x == ("__debug__" : PySem.Str)) = false := by rfl) : Ev prog w (c.fm sc (some (x, a))) σ m (.Name x pos) Q := by
  intro fr s Q' E S k
  obtain ⟨mh, own, n, news, F, N, h2, h3, hb, h4⟩ := id S
  obtain ⟨u, r, _, hu⟩ := NRf.get (cl := some (x, a)) n.1 hv
  obtain ⟨o, ho, hdd⟩ := hu a rfl
  exact wpAny_Name (wpAny_loadName_cell (env := frE c.C c.q c.f c.cd sc (some (x, a))) hk hl (by show List.lookup x [(x, a)] = some a; simp) ⟨o, (N _ (h2 _ (List.mem_append_left _ ho)).1).1, hdd⟩ (k u v s.heap s.toks σ r S h)) hd

theorem ev_global {x : PySem.Str} {pos : Pos} {f : Addr} {Q : AV → Store → Prop} (O : F.Ok K) (e : nsIn K mainGlobals x = some (some (.ref f))) (h : Q (.ref f) σ) (hl : F.env.kindOf x = some .globalImplicit := by rfl)
    (hd : (x == ("__debug__" : PySem.Str)) = false := by rfl) : Ev prog w F σ m (.Name x pos) Q := by
  intro fr s Q' E S k
  obtain ⟨mh, own, n, news, F', N, h2, h3, hb, h4⟩ := id S
  exact Name_function_global O.ek hl (loadGlobal_global (env := F.env) (show s.heap.Ns F.env.globals F.C.mg from O.gl ▸ (O.T.keeps F'.keep).g) (mg_of O.X O.T.g e) (k (.ref f) (.ref f) s.heap s.toks σ (.ref f) S h)) hd

theorem ev_built {x : PySem.Str} {pos : Pos} {a : AV} {v : Value} {Q : AV → Store → Prop} (O : F.Ok K) (e : nsIn K mainGlobals x = some none) (hv : bootBuiltins x = some v) (r : VR a v) (h : Q a σ) (hn : x ≠ "__name__" := by decide) (hl : F.env.kindOf x = some .globalImplicit := by rfl)
    (hd : (x == ("__debug__" : PySem.Str)) = false := by rfl) : Ev prog w F σ m (.Name x pos) Q := by
  intro fr s Q' E S k
  obtain ⟨mh, own, n, news, F', N, h2, h3, hb, h4⟩ := id S
  exact Name_function_global O.ek hl (loadGlobal_builtin (env := F.env) (show s.heap.Ns F.env.globals F.C.mg from O.gl ▸ (O.T.keeps F'.keep).g) (mg_none_of O.X O.T.g e) (show s.heap.Ns F.env.builtins F.C.mb from O.bl ▸ (O.T.keeps F'.keep).b) ((O.T.builtins x hn).trans hv) (k v a s.heap s.toks σ r S h)) hd

theorem ev_int {i : Int} {k : Nat} {pos : Pos} {Q : AV → Store → Prop} (h : Q (.int i) σ) : Ev prog w F σ m (.Constant (.int i) k pos) Q :=
  fun fr s Q' E S k => wpAny_Constant_int (k _ _ _ _ _ (.int i _) S h)
theorem ev_str {x : PySem.Str} {k : Nat} {pos : Pos} {Q : AV → Store → Prop} (h : Q (.str x) σ) : Ev prog w F σ m (.Constant (.str x) k pos) Q :=
  fun fr s Q' E S k => Calls.Constant_str (k _ _ _ _ _ (.str x _) S h)
theorem ev_bool {b : Bool} {k : Nat} {pos : Pos} {Q : AV → Store → Prop} (h : Q (.bool b) σ) : Ev prog w F σ m (.Constant (.bool b) k pos) Q :=
  fun fr s Q' E S k => Constant_bool (k _ _ s.heap s.toks _ (.bool b) S h)
theorem ev_none {k : Nat} {pos : Pos} {Q : AV → Store → Prop} (h : Q .none σ) : Ev prog w F σ m (.Constant .none k pos) Q :=
  fun fr s Q' E S k => wpAny_Constant_none (k _ _ s.heap s.toks _ .none S h)

theorem evl_nil {Q : List AV → Store → Prop} (h : Q [] σ) : EvL prog w F σ m [] Q :=
  fun _ fr s Q' E S k => args_nil (k _ _ s.heap s.toks _ .nil S h)
noncomputable abbrev tailQ (a : AV) (Q : List AV → Store → Prop) : List AV → Store → Prop := fun as σ₂ => Q (a :: as) σ₂
noncomputable abbrev consQ (prog : Program) (w : World) (F : Fm) (m : Loc) (es : List PySem.Expr) (Q : List AV → Store → Prop) : AV → Store → Prop := fun a σ₁ => EvL prog w F σ₁ m es (tailQ a Q)
theorem evl_cons {e : PySem.Expr} {es : List PySem.Expr} {Q : List AV → Store → Prop} (h : Ev prog w F σ m e (consQ prog w F m es Q))
    (he : starEach (e :: es) F.env = (false, eval e F.env) :: starEach es F.env := by rfl) : EvL prog w F σ m (e :: es) Q := by
  intro pos fr s Q' E S k
  refine args_cons (h fr s _ E S fun x y h' tk σ' r S' q => q pos fr _ _ E S' fun xs ys h₂ tk₂ σ₂ rs S₂ q₂ => k _ _ _ _ _ (.cons r rs) S₂ q₂) he

theorem VRs.length {l : List AV} {vs : List Value} (h : VRs l vs) : vs.length = l.length := by
  induction h with
  | nil => rfl
  | cons _ _ ih => rw [List.length_cons, List.length_cons, ih]

noncomputable def small : Nat := 1000
theorem small_le {n : Nat} (h : n ≤ small) : n ≤ sizeLine := Nat.le_trans h (by rw [PySem.sizeLine_eq]; decide)

noncomputable abbrev tupQ (Q : AV → Store → Prop) : List AV → Store → Prop := fun as σ₁ => as.length ≤ small ∧ ∀ a, σ₁ a = none → Q (.ref a) (upd σ₁ a (.tup as))
noncomputable abbrev listQ (Q : AV → Store → Prop) : List AV → Store → Prop := fun as σ₁ => as.length ≤ small ∧ ∀ a, σ₁ a = none → Q (.ref a) (upd σ₁ a (.list as))
theorem ev_tuple {es : List PySem.Expr} {k : Nat} {pos : Pos} {Q : AV → Store → Prop} (h : EvL prog w F σ m es (tupQ Q)) : Ev prog w F σ m (.Tuple es k pos) Q := by
  intro fr s Q' E S k'
  refine Tuple_ (h pos fr s _ E S fun vs as h' tk σ' r S' q => ?_)
  obtain ⟨hf, S₂⟩ := S'.alloc (OR.tup (prog := prog) (w := w) 0 r) rfl
  exact wpAny_newObj_type (k' _ _ _ _ _ (.ref _) S₂ (q.2 _ hf)) (by show vs.toArray.size ≤ sizeLine; rw [List.size_toArray, r.length]; exact small_le q.1)
theorem ev_list {es : List PySem.Expr} {pos : Pos} {Q : AV → Store → Prop} (h : EvL prog w F σ m es (listQ Q)) : Ev prog w F σ m (.List es pos) Q := by
  intro fr s Q' E S k'
  refine List_ (h pos fr s _ E S fun vs as h' tk σ' r S' q => ?_)
  obtain ⟨hf, S₂⟩ := S'.alloc (OR.list (prog := prog) (w := w) 0 r) rfl
  exact wpAny_newList (k' _ _ _ _ _ (.ref _) S₂ (q.2 _ hf)) (by rw [r.length]; exact small_le q.1)

end Mine
namespace Mine
variable {prog : Program} {w : World} {K : Frag} {F : Fm} {σ : Store} {m : Loc}

/-! statements -/
theorem letQ {sts : List Stmt} {Q : Fl → Store → Loc → Prop} (h : let Q' := Q; Ex prog w F σ m sts Q') : Ex prog w F σ m sts Q := h
theorem ex_nil {Q : Fl → Store → Loc → Prop} (h : Q .next σ m) : Ex prog w F σ m [] Q :=
  fun fr s Q' E S k => wpAny_execs_nil (k _ _ s.heap s.toks _ _ .next S h)
noncomputable abbrev thenQ (prog : Program) (w : World) (F : Fm) (rest : List Stmt) (Q : Fl → Store → Loc → Prop) : Fl → Store → Loc → Prop := fun fl σ₁ m₁ => match fl with | .next => Ex prog w F σ₁ m₁ rest Q | fl => Q fl σ₁ m₁
noncomputable abbrev ifQ (prog : Program) (w : World) (F : Fm) (m : Loc) (body orelse : List Stmt) (Q : Fl → Store → Loc → Prop) : Bool → Store → Prop := fun b σ₁ => (b = true → Ex prog w F σ₁ m body Q) ∧ (b = false → Ex prog w F σ₁ m orelse Q)
theorem ex_cons {st : Stmt} {rest : List Stmt} {Q : Fl → Store → Loc → Prop} (h : let m' := m; let Q' := thenQ prog w F rest Q; Ex1 prog w F σ m' st Q') : Ex prog w F σ m (st :: rest) Q := by
  intro fr s Q' E S k
  refine wpAny_execs_cons (h fr s _ E S fun x y h' tk σ' m' r S' q => ?_)
  cases r with
  | next => exact q fr _ Q' E S' fun x y h₂ tk₂ σ₂ m₂ r₂ S₂ q₂ => k x y h₂ tk₂ σ₂ m₂ r₂ S₂ q₂
  | brk => exact k _ _ _ _ _ _ .brk S' q
  | cont => exact k _ _ _ _ _ _ .cont S' q
  | ret r => exact k _ _ _ _ _ _ (.ret r) S' q
noncomputable abbrev retQ (m : Loc) (Q : Fl → Store → Loc → Prop) : AV → Store → Prop := fun v σ₁ => Q (.ret v) σ₁ m
noncomputable abbrev exprQ (m : Loc) (Q : Fl → Store → Loc → Prop) : AV → Store → Prop := fun _ σ₁ => Q .next σ₁ m
noncomputable abbrev asgQ (x : PySem.Str) (m : Loc) (Q : Fl → Store → Loc → Prop) : AV → Store → Prop := fun v σ₁ => Q .next σ₁ (put x v m)
theorem ex_ret {e : PySem.Expr} {pos : Pos} {Q : Fl → Store → Loc → Prop} (h : Ev prog w F σ m e (retQ m Q)) : Ex1 prog w F σ m (.Return (some e) pos) Q :=
  fun fr s Q' E S k => wpAny_Return_some (h fr s _ E S fun x y h' tk σ' r S' q => k _ _ _ _ _ _ (.ret r) S' q)
theorem ex_ret0 {pos : Pos} {Q : Fl → Store → Loc → Prop} (h : Q (.ret .none) σ m) : Ex1 prog w F σ m (.Return none pos) Q :=
  fun fr s Q' E S k => wpAny_Return_none (k _ _ s.heap s.toks _ _ (.ret .none) S h)
theorem ex_continue {pos : Pos} {Q : Fl → Store → Loc → Prop} (h : Q .cont σ m) : Ex1 prog w F σ m (.Continue pos) Q :=
  fun fr s Q' E S k => wpAny_Continue (k _ _ s.heap s.toks _ _ .cont S h)
theorem ex_break {pos : Pos} {Q : Fl → Store → Loc → Prop} (h : Q .brk σ m) : Ex1 prog w F σ m (.Break pos) Q :=
  fun fr s Q' E S k => wpAny_Break (k _ _ s.heap s.toks _ _ .brk S h)
theorem ex_expr {e : PySem.Expr} {pos : Pos} {Q : Fl → Store → Loc → Prop} (h : Ev prog w F σ m e (exprQ m Q)) (h1 : interactive F.env = false := by rfl) (h2 : swapsWith e none pos.line F.env = pure false := by rfl) : Ex1 prog w F σ m (.Expr e pos) Q :=
  fun fr s Q' E S k => wpAny_Expr_any (h fr s _ E S fun x y h' tk σ' r S' q => k _ _ _ _ _ _ .next S' q) h1 h2
theorem ex_if {test : PySem.Expr} {body orelse : List Stmt} {pos : Pos} {Q : Fl → Store → Loc → Prop}
    (h : let Q' := ifQ prog w F m body orelse Q; Ts prog w F σ m test Q') : Ex1 prog w F σ m (.If test body orelse pos) Q := by
  intro fr s Q' E S k
  refine wpAny_If (h fr s _ E S fun x y h' tk σ' r S' q => ?_)
  subst r
  cases y with
  | true => rw [if_pos rfl]; exact q.1 rfl fr _ Q' E S' fun x y h₂ tk₂ σ₂ m₂ r₂ S₂ q₂ => k x y h₂ tk₂ σ₂ m₂ r₂ S₂ q₂
  | false => rw [if_neg (by simp)]; exact q.2 rfl fr _ Q' E S' fun x y h₂ tk₂ σ₂ m₂ r₂ S₂ q₂ => k x y h₂ tk₂ σ₂ m₂ r₂ S₂ q₂

/-! stores into names -/
theorem NRf.put {cl : Option (PySem.Str × Addr)} {mh : PySem.Str → Option Value} {own : List (Addr × Obj)} {x : PySem.Str} {v : AV} {u : Value} (h : NRf cl mh own m) (r : VR v u) (hc : (cl.all fun p => !(decide (x = p.1))) = true) :
    NRf cl (fun y => if y = x then some u else mh y) own (put x v m) := by
  match cl, h with
  | none, ⟨h1, h2⟩ =>
    refine ⟨h1, fun y v' e => ?_⟩
    rw [get_put] at e
    by_cases q : y = x
    · rw [if_pos q] at e; cases e
      exact ⟨u, if_pos q, r⟩
    · rw [if_neg q] at e
      obtain ⟨u', a, b⟩ := h2 y v' e
      exact ⟨u', (if_neg q).trans a, b⟩
  | some (z, c), ⟨o, vo, h1, h2, h3⟩ =>
    have hz : x ≠ z := by simpa using hc
    refine ⟨o, vo, h1, h2, fun y v' e => ?_⟩
    rw [get_put] at e
    by_cases q : y = x
    · rw [if_pos q] at e; cases e
      refine ⟨u, ?_, r⟩
      dsimp only
      rw [if_neg (by rw [q]; exact hz), if_pos q]
    · rw [if_neg q] at e
      obtain ⟨u', a, b⟩ := h3 y v' e
      refine ⟨u', ?_, b⟩
      by_cases p : y = z
      · rw [if_pos p] at a ⊢; exact a
      · rw [if_neg p] at a ⊢; exact (if_neg q).trans a

theorem store_local {c : Fn} {sc : Scope} {cl : Option (PySem.Str × Addr)} {x : PySem.Str} {v : AV} {u : Value} {fr : List (Addr × Obj)} {s : Shared} {Q : Unit → Shared → Prop} {E : Value → Shared → Prop} (r : VR v u) (S : St prog w (c.fm sc cl) fr σ m s.heap)
    (h : ∀ h' tk, St prog w (c.fm sc cl) fr σ (put x v m) h' → Q () { s with heap := h', toks := tk }) (hl : sc.names.lookup x = some .local) (hc : (cl.all fun p => !(decide (x = p.1))) = true) (hk : sc.kind = .function) :
    wpAny (model prog w) c.C.A (storeName (frE c.C c.q c.f c.cd sc cl) x u) Q E s := by
  obtain ⟨mh, own, n, news, F, N, h2, h3, hb, h4⟩ := S
  refine wpAny_storeName_local (env := frE c.C c.q c.f c.cd sc cl) hl F.ns (fun h' hn hs => h h' _ ⟨_, own, ⟨n.1.put r hc, n.2⟩, news, F.set hn hs, N.set hs, h2, h3, hb, h4⟩) ?_
  show (sc.kind == .class || (sc.kind == .module && c.C.L != mainGlobals)) = false
  rw [hk]; rfl

theorem ex_assign {c : Fn} {sc : Scope} {cl : Option (PySem.Str × Addr)} {x : PySem.Str} {pos' : Pos} {value : PySem.Expr} {pos : Pos} {Q : Fl → Store → Loc → Prop}
    (h : Ev prog w (c.fm sc cl) σ m value (asgQ x m Q)) (hs : swapsWith value (some (.Name x pos')) pos.line (c.fm sc cl).env = pure false := by rfl)
    (hl : sc.names.lookup x = some .local := by rfl) (hc : (cl.all fun p => !(decide (x = p.1))) = true := by rfl) (hk : sc.kind = .function := by rfl) : Ex1 prog w (c.fm sc cl) σ m (.Assign [.Name x pos'] value pos) Q :=
  fun fr s Q' E S k => wpAny_Assign_Name (h fr s _ E S fun u v h' tk σ' r S' q => store_local r S' (fun h₂ tk₂ S₂ => k _ _ _ _ _ _ .next S₂ q) hl hc hk) hs

theorem store_cell {c : Fn} {sc : Scope} {ca : Addr} {x : PySem.Str} {v : AV} {u : Value} {fr : List (Addr × Obj)} {s : Shared} {Q : Unit → Shared → Prop} {E : Value → Shared → Prop} (r : VR v u) (S : St prog w (c.fm sc (some (x, ca))) fr σ m s.heap)
    (h : ∀ h' tk, St prog w (c.fm sc (some (x, ca))) fr σ (put x v m) h' → Q () { s with heap := h', toks := tk }) (hl : sc.names.lookup x = some .cell) (hk : sc.kind = .function) :
    wpAny (model prog w) c.C.A (storeName (frE c.C c.q c.f c.cd sc (some (x, ca))) x u) Q E s := by
  obtain ⟨mh, own, ⟨⟨o, vo, rfl, h2, h3⟩, dj⟩, cc⟩ := S
  have ho := cc.frAt (p := (ca, o)) (by simp)
  refine wpAny_storeName_cell (env := frE c.C c.q c.f c.cd sc (some (x, ca))) hk hl (by show List.lookup x [(x, ca)] = some ca; simp) ⟨o, ho, h2⟩ fun h' hn hs => ?_
  obtain ⟨o', ho', hd'⟩ := hn
  refine h h' _ ⟨mh, [(ca, o')], ⟨⟨o', _, rfl, hd', fun y v' e => ?_⟩, fun p hp q hq => ?_⟩, Co.updFr (fr₁ := []) cc (fun p hp => ?_) hs ho'⟩
  rotate_left
  · rcases List.mem_cons.mp hp with rfl | hp
    · exact dj (ca, o) (.head _) q hq
    · cases hp
  · exact fun e => dj (ca, o) (.head _) p (by simpa using hp) e.symm
  rw [get_put] at e
  by_cases q : y = x
  · rw [if_pos q] at e; cases e
    exact ⟨u, by rw [if_pos q], r⟩
  · rw [if_neg q] at e
    obtain ⟨u', a, b⟩ := h3 y v' e
    rw [if_neg q] at a
    exact ⟨u', by rw [if_neg q]; exact a, b⟩

theorem ex_assign_cell {c : Fn} {sc : Scope} {ca : Addr} {x : PySem.Str} {pos' : Pos} {value : PySem.Expr} {pos : Pos} {Q : Fl → Store → Loc → Prop}
    (h : Ev prog w (c.fm sc (some (x, ca))) σ m value (asgQ x m Q)) (hs : swapsWith value (some (.Name x pos')) pos.line (c.fm sc (some (x, ca))).env = pure false := by rfl)
    (hl : sc.names.lookup x = some .cell := by rfl) (hk : sc.kind = .function := by rfl) : Ex1 prog w (c.fm sc (some (x, ca))) σ m (.Assign [.Name x pos'] value pos) Q :=
  fun fr s Q' E S k => wpAny_Assign_Name (h fr s _ E S fun u v h' tk σ' r S' q => store_cell r S' (fun h₂ tk₂ S₂ => k _ _ _ _ _ _ .next S₂ q) hl hk) hs

/-! tests -/
noncomputable abbrev valQ (Q : Bool → Store → Prop) : AV → Store → Prop := fun v σ₁ => ∃ b, v = .bool b ∧ Q b σ₁
noncomputable abbrev notQ (Q : Bool → Store → Prop) : Bool → Store → Prop := fun b σ₁ => Q (!b) σ₁
noncomputable abbrev andQ (prog : Program) (w : World) (F : Fm) (m : Loc) (y : PySem.Expr) (Q : Bool → Store → Prop) : Bool → Store → Prop := fun b σ₁ => (b = true → Ts prog w F σ₁ m y Q) ∧ (b = false → Q false σ₁)
noncomputable abbrev orQ (prog : Program) (w : World) (F : Fm) (m : Loc) (y : PySem.Expr) (Q : Bool → Store → Prop) : Bool → Store → Prop := fun b σ₁ => (b = true → Q true σ₁) ∧ (b = false → Ts prog w F σ₁ m y Q)
theorem ts_value {e : PySem.Expr} {Q : Bool → Store → Prop} (h : Ev prog w F σ m e (valQ Q))
    (he : ∀ whole, isTrue e F.env whole = (do let v ← whole; standAt e.pos; holding [v] (truthy v)) := by intro _; rfl) : Ts prog w F σ m e Q := by
  intro fr s Q' E S k
  refine wpAny_isTrue_value (h fr s _ E S fun x y h' tk σ' r S' q => ?_) (he _)
  obtain ⟨b, rfl, q⟩ := q
  cases r
  exact wpAny_truthy_bool (k _ _ _ _ _ rfl S' q)
theorem ts_not {x : PySem.Expr} {pos : Pos} {Q : Bool → Store → Prop} (h : Ts prog w F σ m x (notQ Q)) : Ts prog w F σ m (.UnaryOp .Not x pos) Q := by
  intro fr s Q' E S k
  refine wpAny_isTrue_Not (h fr s _ E S fun x y h' tk σ' r S' q => ?_)
  subst r
  exact k _ _ _ _ _ rfl S' q
theorem ts_and {x y : PySem.Expr} {pos : Pos} {Q : Bool → Store → Prop} (h : Ts prog w F σ m x (andQ prog w F m y Q)) : Ts prog w F σ m (.BoolOp .And [x, y] pos) Q := by
  intro fr s Q' E S k
  refine wpAny_isTrue_BoolOp (wpAny_allTrue_And_cons (h fr s _ E S fun x' b h' tk σ' r S' q => ?_))
  subst r
  cases b with
  | false => rw [if_neg (by simp)]; exact k _ _ _ _ _ rfl S' (q.2 rfl)
  | true =>
    rw [if_pos rfl]
    refine wpAny_allTrue_And_cons (q.1 rfl fr _ _ E S' fun x' b h' tk σ' r S' q => ?_)
    subst r
    cases b with
    | false => rw [if_neg (by simp)]; exact k _ _ _ _ _ rfl S' q
    | true => rw [if_pos rfl]; exact wpAny_allTrue_And_nil (k _ _ _ _ _ rfl S' q)
theorem ts_or {x y : PySem.Expr} {pos : Pos} {Q : Bool → Store → Prop} (h : Ts prog w F σ m x (orQ prog w F m y Q)) : Ts prog w F σ m (.BoolOp .Or [x, y] pos) Q := by
  intro fr s Q' E S k
  refine wpAny_isTrue_BoolOp (wpAny_allTrue_Or_cons (h fr s _ E S fun x' b h' tk σ' r S' q => ?_))
  subst r
  cases b with
  | true => rw [if_pos rfl]; exact k _ _ _ _ _ rfl S' (q.1 rfl)
  | false =>
    rw [if_neg (by simp)]
    refine wpAny_allTrue_Or_cons (q.2 rfl fr _ _ E S' fun x' b h' tk σ' r S' q => ?_)
    subst r
    cases b with
    | true => rw [if_pos rfl]; exact k _ _ _ _ _ rfl S' q
    | false => rw [if_neg (by simp)]; exact wpAny_allTrue_Or_nil (k _ _ _ _ _ rfl S' q)
theorem ts_or3 {x y z : PySem.Expr} {pos : Pos} {Q : Bool → Store → Prop} (h : Ts prog w F σ m x fun b σ₁ => (b = true → Q true σ₁) ∧ (b = false → Ts prog w F σ₁ m y fun b σ₂ => (b = true → Q true σ₂) ∧ (b = false → Ts prog w F σ₂ m z Q))) : Ts prog w F σ m (.BoolOp .Or [x, y, z] pos) Q := by
  intro fr s Q' E S k
  refine wpAny_isTrue_BoolOp (wpAny_allTrue_Or_cons (h fr s _ E S fun x' b h' tk σ' r S' q => ?_))
  subst r
  cases b with
  | true => rw [if_pos rfl]; exact k _ _ _ _ _ rfl S' (q.1 rfl)
  | false =>
    rw [if_neg (by simp)]
    refine wpAny_allTrue_Or_cons (q.2 rfl fr _ _ E S' fun x' b h' tk σ' r S' q => ?_)
    subst r
    cases b with
    | true => rw [if_pos rfl]; exact k _ _ _ _ _ rfl S' (q.1 rfl)
    | false =>
      rw [if_neg (by simp)]
      refine wpAny_allTrue_Or_cons (q.2 rfl fr _ _ E S' fun x' b h' tk σ' r S' q => ?_)
      subst r
      cases b with
      | true => rw [if_pos rfl]; exact k _ _ _ _ _ rfl S' q
      | false => rw [if_neg (by simp)]; exact wpAny_allTrue_Or_nil (k _ _ _ _ _ rfl S' q)

/-! comparisons: by a pure reading of the operator -/
/-- what an operator answers of two abstract values in a store -/
noncomputable def Cmp (prog : Program) (w : World) (F : Fm) (σ : Store) (m : Loc) (op : CmpOp) (a b : AV) (Q : Bool → Store → Prop) : Prop :=
  ∀ u v, VR a u → VR b v → Tr (fun (x : Bool) y => y = Value.bool x) prog w F σ m (compareOp op u v) Q
noncomputable abbrev cmp2Q (prog : Program) (w : World) (F : Fm) (m : Loc) (op : CmpOp) (a : AV) (Q : Bool → Store → Prop) : AV → Store → Prop := fun b σ₂ => Cmp prog w F σ₂ m op a b Q
noncomputable abbrev cmpQ (prog : Program) (w : World) (F : Fm) (m : Loc) (op : CmpOp) (r : PySem.Expr) (Q : Bool → Store → Prop) : AV → Store → Prop := fun a σ₁ => Ev prog w F σ₁ m r (cmp2Q prog w F m op a Q)
noncomputable abbrev boolQ (Q : AV → Store → Prop) : Bool → Store → Prop := fun c σ₃ => Q (.bool c) σ₃
theorem ts_cmp {l r : PySem.Expr} {op : CmpOp} {pos : Pos} {Q : Bool → Store → Prop} (h : Ev prog w F σ m l (cmpQ prog w F m op r Q)) (hm : behindInMarks op r = false := by rfl) :
    Ts prog w F σ m (.Compare l [op] [r] pos) Q := by
  intro fr s Q' E S k
  refine wpAny_isTrue_Compare1 (h fr s _ E S fun x a h' tk σ' r S' q => q fr _ _ E S' fun y b h' tk σ' r' S' q => ?_) hm
  refine q x y r r' fr _ _ E S' fun z c h' tk σ' rz S' q => ?_
  subst rz
  exact wpAny_truthy_bool (k _ _ _ _ _ rfl S' q)
theorem ev_cmp {l r : PySem.Expr} {op : CmpOp} {pos : Pos} {Q : AV → Store → Prop} (h : Ev prog w F σ m l (cmpQ prog w F m op r (boolQ Q))) (hm : behindInMarks op r = false := by rfl) :
    Ev prog w F σ m (.Compare l [op] [r] pos) Q := by
  intro fr s Q' E S k
  refine wpAny_Compare1 (h fr s _ E S fun x a h' tk σ' r S' q => q fr _ _ E S' fun y b h' tk σ' r' S' q => ?_) hm
  refine q x y r r' fr _ _ E S' fun z c h' tk σ' rz S' q => ?_
  subst rz
  exact k _ _ _ _ _ (.bool c) S' q
/-- and, or as values: the left is a bool -/
theorem ev_and {x y : PySem.Expr} {pos : Pos} {Q : AV → Store → Prop} (h : Ev prog w F σ m x fun v σ₁ => ∃ b, v = .bool b ∧ (b = true → Ev prog w F σ₁ m y Q) ∧ (b = false → Q (.bool false) σ₁)) : Ev prog w F σ m (.BoolOp .And [x, y] pos) Q := by
  intro fr s Q' E S k
  refine wpAny_And2 (h fr s _ E S fun x' v h' tk σ' r S' q => ?_)
  obtain ⟨b, rfl, q1, q2⟩ := q
  cases r
  refine wpAny_truthy_bool ?_
  cases b with
  | true => rw [if_pos rfl]; exact q1 rfl fr _ _ E S' fun x y h₂ tk₂ σ₂ r₂ S₂ q₂ => k _ _ _ _ _ r₂ S₂ q₂
  | false => rw [if_neg (by simp)]; exact k _ _ _ _ _ (.bool false) S' (q2 rfl)
theorem ev_or {x y : PySem.Expr} {pos : Pos} {Q : AV → Store → Prop} (h : Ev prog w F σ m x fun v σ₁ => ∃ b, v = .bool b ∧ (b = true → Q (.bool true) σ₁) ∧ (b = false → Ev prog w F σ₁ m y Q)) : Ev prog w F σ m (.BoolOp .Or [x, y] pos) Q := by
  intro fr s Q' E S k
  refine wpAny_Or2 (h fr s _ E S fun x' v h' tk σ' r S' q => ?_)
  obtain ⟨b, rfl, q1, q2⟩ := q
  cases r
  refine wpAny_truthy_bool ?_
  cases b with
  | true => rw [if_pos rfl]; exact k _ _ _ _ _ (.bool true) S' (q1 rfl)
  | false => rw [if_neg (by simp)]; exact q2 rfl fr _ _ E S' fun x y h₂ tk₂ σ₂ r₂ S₂ q₂ => k _ _ _ _ _ r₂ S₂ q₂
theorem ev_ifexp {test body orelse : PySem.Expr} {pos : Pos} {Q : AV → Store → Prop} (h : Ts prog w F σ m test fun b σ₁ => (b = true → Ev prog w F σ₁ m body Q) ∧ (b = false → Ev prog w F σ₁ m orelse Q)) : Ev prog w F σ m (.IfExp test body orelse pos) Q := by
  intro fr s Q' E S k
  refine wpAny_IfExp (h fr s _ E S fun x' b h' tk σ' r S' q => ?_)
  subst r
  cases b with
  | true => rw [if_pos rfl]; exact q.1 rfl fr _ _ E S' fun x y h₂ tk₂ σ₂ r₂ S₂ q₂ => k _ _ _ _ _ r₂ S₂ q₂
  | false => rw [if_neg (by simp)]; exact q.2 rfl fr _ _ E S' fun x y h₂ tk₂ σ₂ r₂ S₂ q₂ => k _ _ _ _ _ r₂ S₂ q₂

/-! binary operators -/
noncomputable def Bin (prog : Program) (w : World) (F : Fm) (σ : Store) (m : Loc) (op : Operator) (a b : AV) (Q : AV → Store → Prop) : Prop :=
  ∀ u v, VR a u → VR b v → Tr VR prog w F σ m (binaryOp op u v) Q
noncomputable abbrev bin2Q (prog : Program) (w : World) (F : Fm) (m : Loc) (op : Operator) (a : AV) (Q : AV → Store → Prop) : AV → Store → Prop := fun b σ₂ => Bin prog w F σ₂ m op a b Q
noncomputable abbrev binQ (prog : Program) (w : World) (F : Fm) (m : Loc) (op : Operator) (r : PySem.Expr) (Q : AV → Store → Prop) : AV → Store → Prop := fun a σ₁ => Ev prog w F σ₁ m r (bin2Q prog w F m op a Q)
noncomputable abbrev sub2Q (prog : Program) (w : World) (F : Fm) (m : Loc) (value slice : PySem.Expr) (a : AV) (Q : AV → Store → Prop) : AV → Store → Prop := fun b σ₂ => ∀ u v, VR a u → VR b v → Tr VR prog w F σ₂ m (subscriptTail value slice u v) Q
noncomputable abbrev subQ (prog : Program) (w : World) (F : Fm) (m : Loc) (value slice : PySem.Expr) (Q : AV → Store → Prop) : AV → Store → Prop := fun a σ₁ => Ev prog w F σ₁ m slice (sub2Q prog w F m value slice a Q)
theorem ev_bin {l r : PySem.Expr} {op : Operator} {pos : Pos} {Q : AV → Store → Prop} (h : Ev prog w F σ m l (binQ prog w F m op r Q)) : Ev prog w F σ m (.BinOp l op r pos) Q :=
  fun fr s Q' E S k => wpAny_BinOp (h fr s _ E S fun x a h' tk σ' r S' q => q fr _ _ E S' fun y b h' tk σ' r' S' q => q x y r r' fr _ _ E S' fun z c h' tk σ' rz S' q => k _ _ _ _ _ rz S' q)
theorem ev_sub {value slice : PySem.Expr} {pos : Pos} {Q : AV → Store → Prop} (h : Ev prog w F σ m value (subQ prog w F m value slice Q)) :
    Ev prog w F σ m (.Subscript value slice pos) Q :=
  fun fr s Q' E S k => Subscript_ (h fr s _ E S fun x a h' tk σ' r S' q => q fr _ _ E S' fun y b h' tk σ' r' S' q => q x y r r' fr _ _ E S' fun z c h' tk σ' rz S' q => k _ _ _ _ _ rz S' q)

end Mine
namespace Mine
variable {prog : Program} {w : World} {K : Frag} {F : Fm} {σ : Store} {m : Loc}

/-! atoms: their equality -/
noncomputable def eqA : AV → AV → Option Bool
  | .none, .none => some true
  | .none, .str _ => some false
  | .str _, .none => some false
  | .int a, .int b => some (a == b)
  | .str a, .str b => some (a == b)
  | _, _ => none
theorem eqA_at {A : Around} {s : Shared} {a b : AV} {u v : Value} {c : Bool} (h : eqA a b = some c) (ra : VR a u) (rb : VR b v) : SeqAt.EqAt A s u v c := by
  cases ra <;> cases rb <;> simp only [eqA] at h <;> cases h
  · exact SeqAt.EqAt.same _
  · exact SeqAt.EqAt.none_str _ _
  · exact SeqAt.EqAt.int_int _ _ _ _
  · exact SeqAt.EqAt.str_none _ _
  · exact SeqAt.EqAt.str_str _ _ _ _

theorem VRs.get : ∀ {l : List AV} {vs : List Value} {i : Nat} {a : AV}, VRs l vs → l[i]? = some a → ∃ v, vs[i]? = some v ∧ VR a v
  | _, _, _, _, .nil, h => by simp at h
  | _, _, 0, _, .cons r rs, h => by
    simp only [List.getElem?_cons_zero, Option.some.injEq] at h
    subst h
    exact ⟨_, by simp, r⟩
  | _, _, i + 1, _, .cons r rs, h => by
    simp only [List.getElem?_cons_succ] at h
    obtain ⟨v, h1, h2⟩ := rs.get h
    exact ⟨v, by simpa using h1, h2⟩
theorem VRs.back : ∀ {l : List AV} {vs : List Value} {i : Nat} {v : Value}, VRs l vs → vs[i]? = some v → ∃ a, l[i]? = some a ∧ VR a v
  | _, _, _, _, .nil, h => by simp at h
  | _, _, 0, _, .cons r rs, h => by
    simp only [List.getElem?_cons_zero, Option.some.injEq] at h
    subst h
    exact ⟨_, by simp, r⟩
  | _, _, i + 1, _, .cons r rs, h => by
    simp only [List.getElem?_cons_succ] at h
    obtain ⟨v, h1, h2⟩ := rs.back h
    exact ⟨v, by simpa using h1, h2⟩
theorem VRs.append : ∀ {l l' : List AV} {vs vs' : List Value}, VRs l vs → VRs l' vs' → VRs (l ++ l') (vs ++ vs')
  | _, _, _, _, .nil, h => h
  | _, _, _, _, .cons r rs, h => .cons r (rs.append h)
theorem VRs.reverse : ∀ {l : List AV} {vs : List Value}, VRs l vs → VRs l.reverse vs.reverse
  | _, _, .nil => .nil
  | _, _, .cons r rs => by
    rw [List.reverse_cons, List.reverse_cons]
    exact rs.reverse.append (.cons r .nil)
theorem VRs.set : ∀ {l : List AV} {vs : List Value} {i : Nat} {a : AV} {v : Value}, VRs l vs → VR a v → VRs (l.set i a) (vs.set i v)
  | _, _, _, _, _, .nil, _ => .nil
  | _, _, 0, _, _, .cons r rs, h => .cons h rs
  | _, _, i + 1, _, _, .cons r rs, h => .cons r (rs.set h)

theorem St.isList {fr : List (Addr × Obj)} {h : Heap} {l : Addr} {xs : List AV} (S : St prog w F fr σ m h) (e : σ l = some (.list xs)) : ∃ vs : List Value, VRs xs vs ∧ h.IsList l vs.toArray := by
  obtain ⟨ro, hg, r⟩ := S.at e
  cases r with
  | list n r => exact ⟨_, r, _, hg, rfl, n, rfl⟩
theorem St.isTup {fr : List (Addr × Obj)} {h : Heap} {l : Addr} {xs : List AV} (S : St prog w F fr σ m h) (e : σ l = some (.tup xs)) : ∃ vs : List Value, VRs xs vs ∧ h.IsTuple l vs.toArray := by
  obtain ⟨ro, hg, r⟩ := S.at e
  cases r with
  | tup n r => exact ⟨_, r, _, hg, rfl, n, rfl⟩

/-! comparisons -/
theorem cmp_pure {op : CmpOp} {a b : AV} {c : Bool} {Q : Bool → Store → Prop} (h : Q c σ)
    (k : ∀ (u v : Value) (A : Around) (E : Value → Shared → Prop) (s : Shared) (Q : Value → Shared → Prop), VR a u → VR b v → Q (.bool c) s → wpAny (model prog w) A (compareOp op u v) Q E s) : Cmp prog w F σ m op a b Q :=
  fun u v ru rv fr s Q' E S k' => k u v _ E s _ ru rv (k' _ _ s.heap s.toks σ rfl S h)
theorem cmp_eq_int {i j : Int} {Q : Bool → Store → Prop} (h : Q (i == j) σ) : Cmp prog w F σ m .Eq (.int i) (.int j) Q :=
  cmp_pure h fun u v A E s Q ru rv q => by cases ru; cases rv; exact eq_int q
theorem cmp_ne_int {i j : Int} {Q : Bool → Store → Prop} (h : Q (i != j) σ) : Cmp prog w F σ m .NotEq (.int i) (.int j) Q :=
  cmp_pure h fun u v A E s Q ru rv q => by cases ru; cases rv; exact ne_int q
theorem cmp_lt_int {i j : Int} {Q : Bool → Store → Prop} (h : Q (decide (i < j)) σ) : Cmp prog w F σ m .Lt (.int i) (.int j) Q :=
  cmp_pure h fun u v A E s Q ru rv q => by cases ru; cases rv; exact lt_int q
theorem cmp_gt_int {i j : Int} {Q : Bool → Store → Prop} (h : Q (decide (j < i)) σ) : Cmp prog w F σ m .Gt (.int i) (.int j) Q :=
  cmp_pure h fun u v A E s Q ru rv q => by cases ru; cases rv; exact gt_int q
theorem cmp_ge_int {i j : Int} {Q : Bool → Store → Prop} (h : Q (decide (j ≤ i)) σ) : Cmp prog w F σ m .GtE (.int i) (.int j) Q :=
  cmp_pure h fun u v A E s Q ru rv q => by cases ru; cases rv; exact ge_int q
theorem cmp_eq_str {i j : PySem.Str} {Q : Bool → Store → Prop} (h : Q (i == j) σ) : Cmp prog w F σ m .Eq (.str i) (.str j) Q :=
  cmp_pure h fun u v A E s Q ru rv q => by cases ru; cases rv; exact eq_str q
theorem cmp_ne_str {i j : PySem.Str} {Q : Bool → Store → Prop} (h : Q (i != j) σ) : Cmp prog w F σ m .NotEq (.str i) (.str j) Q :=
  cmp_pure h fun u v A E s Q ru rv q => by cases ru; cases rv; exact ne_str q
noncomputable def isNone : AV → Bool
  | .none => true
  | _ => false
theorem cmp_is_none {a : AV} {Q : Bool → Store → Prop} (h : Q (isNone a) σ) (hb : (match a with | .blt _ => false | _ => true) = true := by rfl) : Cmp prog w F σ m .Is a .none Q :=
  cmp_pure h fun u v A E s Q ru rv q => by cases rv; cases ru <;> first | exact wpAny_is_plain rfl q | cases hb
theorem cmp_isnot_none {a : AV} {Q : Bool → Store → Prop} (h : Q (!isNone a) σ) (hb : (match a with | .blt _ => false | _ => true) = true := by rfl) : Cmp prog w F σ m .IsNot a .none Q :=
  cmp_pure h fun u v A E s Q ru rv q => by cases rv; cases ru <;> first | exact wpAny_isNot_plain rfl q | cases hb

/-- the items of a sequence, each held against x -/
noncomputable def anyEq (l : List AV) (x : AV) : Bool := l.any fun y => eqA y x == some true
noncomputable def evOf (x : AV) : Value → Bool
  | .none => eqA .none x == some true
  | .int i _ => eqA (.int i) x == some true
  | .str i _ => eqA (.str i) x == some true
  | _ => false
theorem evOf_eq {x a : AV} {v : Value} (r : VR a v) (h : (eqA a x).isSome = true) : evOf x v = (eqA a x == some true) := by
  cases r <;> first | rfl | (cases x <;> simp [eqA] at h)
theorem any_evOf {x : AV} : ∀ {l : List AV} {vs : List Value}, VRs l vs → (∀ y ∈ l, (eqA y x).isSome = true) → vs.any (evOf x) = anyEq l x
  | _, _, .nil, _ => rfl
  | _, _, .cons r rs, h => by
    rw [List.any_cons, any_evOf rs fun y hy => h y (.tail _ hy), evOf_eq r (h _ (.head _))]
    rfl
theorem at_evOf {A : Around} {s : Shared} {x : AV} {u : Value} (ru : VR x u) : ∀ {l : List AV} {vs : List Value}, VRs l vs → (∀ y ∈ l, (eqA y x).isSome = true) → ∀ v ∈ vs, SeqAt.EqAt A s v u (evOf x v)
  | _, _, .cons r rs, h, v, hv => by
    rcases List.mem_cons.mp hv with rfl | hv
    · rw [evOf_eq r (h _ (.head _))]
      obtain ⟨c, hc⟩ := Option.isSome_iff_exists.mp (h _ (.head _))
      rw [hc]
      cases c with
      | true => exact eqA_at hc r ru
      | false => exact eqA_at hc r ru
    · exact at_evOf ru rs (fun y hy => h y (.tail _ hy)) v hv

theorem cmp_in_list {x : AV} {l : Addr} {xs : List AV} {Q : Bool → Store → Prop} (hl : σ l = some (.list xs)) (hx : ∀ y ∈ xs, (eqA y x).isSome = true) (h : Q (anyEq xs x) σ) : Cmp prog w F σ m .In x (.ref l) Q := by
  intro u v ru rv fr s Q' E S k
  cases rv
  obtain ⟨vs, r, hL⟩ := S.isList hl
  refine SeqAt.in_listAt (evOf x) hL (fun y hy => at_evOf ru r hx y (by simpa using hy)) ?_
  rw [← Array.any_toList, show vs.toArray.toList = vs from rfl, any_evOf r hx]
  exact k _ _ s.heap s.toks σ rfl S h
theorem cmp_notin_list {x : AV} {l : Addr} {xs : List AV} {Q : Bool → Store → Prop} (hl : σ l = some (.list xs)) (hx : ∀ y ∈ xs, (eqA y x).isSome = true) (h : Q (!anyEq xs x) σ) : Cmp prog w F σ m .NotIn x (.ref l) Q := by
  intro u v ru rv fr s Q' E S k
  cases rv
  obtain ⟨vs, r, hL⟩ := S.isList hl
  refine SeqAt.notIn_listAt (evOf x) hL (fun y hy => at_evOf ru r hx y (by simpa using hy)) ?_
  rw [← Array.any_toList, show vs.toArray.toList = vs from rfl, any_evOf r hx]
  exact k _ _ s.heap s.toks σ rfl S h
theorem cmp_in_tup {x : AV} {l : Addr} {xs : List AV} {Q : Bool → Store → Prop} (hl : σ l = some (.tup xs)) (hx : ∀ y ∈ xs, (eqA y x).isSome = true) (h : Q (anyEq xs x) σ) : Cmp prog w F σ m .In x (.ref l) Q := by
  intro u v ru rv fr s Q' E S k
  cases rv
  obtain ⟨vs, r, hL⟩ := S.isTup hl
  refine SeqAt.in_tupleAt (evOf x) hL (fun y hy => at_evOf ru r hx y (by simpa using hy)) ?_
  rw [← Array.any_toList, show vs.toArray.toList = vs from rfl, any_evOf r hx]
  exact k _ _ s.heap s.toks σ rfl S h
theorem cmp_notin_tup {x : AV} {l : Addr} {xs : List AV} {Q : Bool → Store → Prop} (hl : σ l = some (.tup xs)) (hx : ∀ y ∈ xs, (eqA y x).isSome = true) (h : Q (!anyEq xs x) σ) : Cmp prog w F σ m .NotIn x (.ref l) Q := by
  intro u v ru rv fr s Q' E S k
  cases rv
  obtain ⟨vs, r, hL⟩ := S.isTup hl
  refine SeqAt.notIn_tupleAt (evOf x) hL (fun y hy => at_evOf ru r hx y (by simpa using hy)) ?_
  rw [← Array.any_toList, show vs.toArray.toList = vs from rfl, any_evOf r hx]
  exact k _ _ s.heap s.toks σ rfl S h

/-! dicts by strs -/
theorem KVR.find (x : PySem.Str) : ∀ {l : List (PySem.Str × AV)} {k : List (PySem.Str × Value)}, KVR l k → (∀ v, get x l = some v → ∃ u, valueAt k x = some u ∧ VR v u) ∧ (get x l = none → valueAt k x = none)
  | _, _, .nil => ⟨fun v h => (nomatch h), fun _ => rfl⟩
  | _, _, .cons (x := y) r rs => by
    obtain ⟨h1, h2⟩ := rs.find x
    unfold get
    by_cases q : y = x
    · subst q
      simp only [if_pos]
      refine ⟨fun v h => ?_, fun h => nomatch h⟩
      cases h
      exact ⟨_, by simp [valueAt], r⟩
    · rw [if_neg q]
      refine ⟨fun v h => ?_, fun h => ?_⟩
      · obtain ⟨u, a, b⟩ := h1 v h
        exact ⟨u, by simpa [valueAt, q] using a, b⟩
      · simpa [valueAt, q] using h2 h
theorem KVR.keys : ∀ {l : List (PySem.Str × AV)} {k : List (PySem.Str × Value)}, KVR l k → k.map (·.1) = l.map (·.1)
  | _, _, .nil => rfl
  | _, _, .cons r rs => by rw [List.map_cons, List.map_cons, rs.keys]
theorem KVR.put {x : PySem.Str} {v : AV} {u : Value} (r : VR v u) : ∀ {l : List (PySem.Str × AV)} {k : List (PySem.Str × Value)}, KVR l k → (k.map (·.1)).Nodup → KVR (put x v l) (stored k x u)
  | _, _, .nil, _ => .cons r .nil
  | _, _, .cons (x := y) (l := l) (k := k) r' rs, hn => by
    have ih := KVR.put (x := x) r rs (List.nodup_cons.mp hn).2
    unfold Mine.put
    by_cases q : y = x
    · rw [if_pos q]
      subst q
      have : ∀ v₀, stored ((y, v₀) :: k) y u = (y, u) :: k := by
        intro v₀
        unfold stored
        have hk : ∀ p ∈ k, p.1 ≠ y := fun p hp e => (List.nodup_cons.mp hn).1 (List.mem_map.mpr ⟨p, hp, e⟩)
        simp only [List.any_cons, decide_true, Bool.true_or, if_pos, List.map_cons]
        congr 1
        conv => rhs; rw [← List.map_id k]
        exact List.map_congr_left fun p hp => by rw [if_neg (hk p hp)]; rfl
      rw [this]
      exact .cons r rs
    · rw [if_neg q]
      have : ∀ v₀, stored ((y, v₀) :: k) x u = (y, v₀) :: stored k x u := by
        intro v₀
        unfold stored
        simp only [List.any_cons, q, decide_false, Bool.false_or, List.map_cons, if_false]
        split <;> simp
      rw [this]
      exact .cons r' ih

theorem St.isDict {fr : List (Addr × Obj)} {h : Heap} {d : Addr} {l : List (PySem.Str × AV)} (S : St prog w F fr σ m h) (e : σ d = some (.dict l)) : ∃ kvs, KVR l kvs ∧ h.DictOf (PySem.strKind prog w) d kvs := by
  obtain ⟨ro, hg, r⟩ := S.at e
  cases r with
  | dict h1 h2 h3 h4 h5 h6 => exact ⟨_, h6, _, _, _, hg, h1, h2, h3, h4, h5⟩
theorem getItem_dict {d : Addr} {l : List (PySem.Str × AV)} {x : PySem.Str} {t : Tok} {v : AV} {fr : List (Addr × Obj)} {s : Shared} {Q : Value → Shared → Prop} {E : Value → Shared → Prop} {A : Around} (S : St prog w F fr σ m s.heap) (e : σ d = some (.dict l)) (hv : get x l = some v)
    (h : ∀ u tk, VR v u → Q u { s with toks := tk }) : wpAny (model prog w) A (getItem (.ref d) (.str x t)) Q E s := by
  obtain ⟨kvs, r, D⟩ := S.isDict e
  obtain ⟨u, h1, h2⟩ := (r.find x).1 v hv
  exact wpAny_getItem_of (strKind_is prog w x t) D.mapOf h1 (h u _ h2)

theorem cmp_in_dict {x : PySem.Str} {d : Addr} {l : List (PySem.Str × AV)} {Q : Bool → Store → Prop} (hd : σ d = some (.dict l)) (h : Q (get x l).isSome σ) : Cmp prog w F σ m .In (.str x) (.ref d) Q := by
  intro u v ru rv fr s Q' E S k
  cases rv; cases ru
  obtain ⟨kvs, r, D⟩ := S.isDict hd
  refine wpAny_in_of (strKind_is prog w x _) (S.notMod hd) D.mapOf ?_
  have : (valueAt kvs x).isSome = (get x l).isSome := by
    cases q : get x l with
    | none => rw [(r.find x).2 q]; rfl
    | some v => obtain ⟨u, h1, _⟩ := (r.find x).1 v q; rw [h1]; rfl
  rw [this]
  exact k _ _ s.heap _ σ rfl S h
theorem cmp_notin_dict {x : PySem.Str} {d : Addr} {l : List (PySem.Str × AV)} {Q : Bool → Store → Prop} (hd : σ d = some (.dict l)) (h : Q (!(get x l).isSome) σ) : Cmp prog w F σ m .NotIn (.str x) (.ref d) Q := by
  intro u v ru rv fr s Q' E S k
  cases rv; cases ru
  obtain ⟨kvs, r, D⟩ := S.isDict hd
  refine wpAny_notIn_of (strKind_is prog w x _) (S.notMod hd) D.mapOf ?_
  have : (valueAt kvs x).isSome = (get x l).isSome := by
    cases q : get x l with
    | none => rw [(r.find x).2 q]; rfl
    | some v => obtain ⟨u, h1, _⟩ := (r.find x).1 v q; rw [h1]; rfl
  rw [this]
  exact k _ _ s.heap _ σ rfl S h

end Mine
namespace Mine
variable {prog : Program} {w : World} {K : Frag} {F : Fm} {σ : Store} {m : Loc}

/-! a ledger opened, and closed again behind a library's rule -/
theorem Co.open {h₀ : Heap} {L : Addr} {mh : PySem.Str → Option Value} {fr : List (Addr × Obj)} {h : Heap} {a : Addr} {o : AO} (S : Co prog w h₀ L mh fr σ h) (e : σ a = some o) :
    ∃ ro rest, Fr h₀ L h mh ∧ News h₀ L h ((a, ro) :: rest) ∧ OR prog w o ro ∧ (∀ p ∈ rest, p.1 ≠ a) ∧ (∀ b o₂, b ≠ a → σ b = some o₂ → ∃ r₂, (b, r₂) ∈ rest ∧ OR prog w o₂ r₂) ∧
      ∀ h' o' ro', Fr h₀ L h' mh → News h₀ L h' ((a, ro') :: rest) → OR prog w o' ro' → Co prog w h₀ L mh fr (upd σ a o') h' := by
  obtain ⟨news, F, N, h2, h3, hb, h4⟩ := S
  obtain ⟨ro, hm, r₀⟩ := h3 a o e
  have hfr : ∀ p ∈ fr, p.1 ≠ a := fun p hp q => by have := (h2 p hp).2; rw [q, e] at this; cases this
  have hold : ∀ b o₂, b ≠ a → σ b = some o₂ → ∃ r₂, (b, r₂) ∈ news.filter (fun p => p.1 != a) ∧ OR prog w o₂ r₂ := fun b o₂ q eb => by
    obtain ⟨r₂, m₂, x⟩ := h3 b o₂ eb
    exact ⟨r₂, List.mem_filter.mpr ⟨m₂, by simpa using q⟩, x⟩
  refine ⟨ro, news.filter (fun p => p.1 != a), F, fun p hp => ?_, r₀, fun p hp => by simpa using (List.mem_filter.mp hp).2, hold, fun h' o' ro' F' N' r' => ?_⟩
  · rcases List.mem_cons.mp hp with rfl | hp
    · exact N _ hm
    · exact N _ (List.mem_filter.mp hp).1
  · refine ⟨_, F', N', fun p hp => ⟨.tail _ (List.mem_filter.mpr ⟨(h2 p hp).1, by simpa using hfr p hp⟩), ?_⟩, fun b o₂ eb => ?_, hb, fun b o₂ eb => ?_⟩
    · unfold upd; rw [if_neg (hfr p hp)]; exact (h2 p hp).2
    · unfold upd at eb
      by_cases q : b = a
      · rw [if_pos q] at eb; cases eb; subst q
        exact ⟨ro', .head _, r'⟩
      · rw [if_neg q] at eb
        obtain ⟨r₂, m₂, x⟩ := hold b o₂ q eb
        exact ⟨r₂, .tail _ m₂, x⟩
    · unfold upd at eb
      by_cases q : b = a
      · rw [q]; exact h4 _ _ e
      · rw [if_neg q] at eb; exact h4 _ _ eb

/-- a new object at the heap's end -/
theorem Co.close {h₀ : Heap} {L : Addr} {mh : PySem.Str → Option Value} {fr : List (Addr × Obj)} {h h' : Heap} {news : List (Addr × Obj)} {o : AO} {ro : Obj} (F : Fr h₀ L h mh) (N : News h₀ L h news) (h2 : ∀ p ∈ fr, p ∈ news ∧ σ p.1 = none) (h3 : ∀ a o, σ a = some o → ∃ ro, (a, ro) ∈ news ∧ OR prog w o ro) (hb : sysModules < h₀.objs.size) (h4 : ∀ a o, σ a = some o → sysModules < a)
    (F' : Fr h₀ L h' mh) (N' : News h₀ L h' ((h.objs.size, ro) :: news)) (r : OR prog w o ro) : σ h.objs.size = none ∧ Co prog w h₀ L mh fr (upd σ h.objs.size o) h' := by
  have lt : ∀ p ∈ news, p.1 ≠ h.objs.size := fun p hp => Nat.ne_of_lt (Heap.lt_size (N p hp).1)
  have fresh : σ h.objs.size = none := by
    cases q : σ h.objs.size with
    | none => rfl
    | some o' =>
      obtain ⟨ro', hm, _⟩ := h3 _ _ q
      exact absurd rfl (lt _ hm)
  refine ⟨fresh, _, F', N', fun p hp => ⟨.tail _ (h2 p hp).1, ?_⟩, fun b o₂ eb => ?_, hb, fun b o₂ eb => ?_⟩
  · unfold upd; rw [if_neg (lt p (h2 p hp).1)]; exact (h2 p hp).2
  · unfold upd at eb
    by_cases q : b = h.objs.size
    · rw [if_pos q] at eb; cases eb; subst q
      exact ⟨ro, .head _, r⟩
    · rw [if_neg q] at eb
      obtain ⟨r₂, m₂, x⟩ := h3 b o₂ eb
      exact ⟨r₂, .tail _ m₂, x⟩
  · unfold upd at eb
    by_cases q : b = h.objs.size
    · rw [q]; exact Nat.lt_of_lt_of_le hb (Nat.le_trans F.above (Nat.le_of_lt F.ns.lt))
    · rw [if_neg q] at eb; exact h4 _ _ eb

/-- the same, at any address above the ledger -/
theorem Co.closeAt {h₀ : Heap} {L D : Addr} {mh : PySem.Str → Option Value} {fr : List (Addr × Obj)} {h' : Heap} {news : List (Addr × Obj)} {o : AO} {ro : Obj} (h2 : ∀ p ∈ fr, p ∈ news ∧ σ p.1 = none) (h3 : ∀ a o, σ a = some o → ∃ ro, (a, ro) ∈ news ∧ OR prog w o ro) (hb : sysModules < h₀.objs.size) (h4 : ∀ a o, σ a = some o → sysModules < a)
    (F' : Fr h₀ L h' mh) (N' : News h₀ L h' ((D, ro) :: news)) (lt : ∀ p ∈ news, p.1 < D) (hD : sysModules < D) (r : OR prog w o ro) : σ D = none ∧ Co prog w h₀ L mh fr (upd σ D o) h' := by
  have fresh : σ D = none := by
    cases q : σ D with
    | none => rfl
    | some o' =>
      obtain ⟨ro', hm, _⟩ := h3 _ _ q
      exact absurd (lt _ hm) (Nat.lt_irrefl _)
  refine ⟨fresh, _, F', N', fun p hp => ⟨.tail _ (h2 p hp).1, ?_⟩, fun b o₂ eb => ?_, hb, fun b o₂ eb => ?_⟩
  · unfold upd; rw [if_neg (Nat.ne_of_lt (lt p (h2 p hp).1))]; exact (h2 p hp).2
  · unfold upd at eb
    by_cases q : b = D
    · rw [if_pos q] at eb; cases eb; subst q
      exact ⟨ro, .head _, r⟩
    · rw [if_neg q] at eb
      obtain ⟨r₂, m₂, x⟩ := h3 b o₂ eb
      exact ⟨r₂, .tail _ m₂, x⟩
  · unfold upd at eb
    by_cases q : b = D
    · rw [q]; exact hD
    · rw [if_neg q] at eb; exact h4 _ _ eb

theorem Co.kept {h₀ : Heap} {L : Addr} {mh : PySem.Str → Option Value} {fr : List (Addr × Obj)} {h h' : Heap} (S : Co prog w h₀ L mh fr σ h) (k : ∀ b o, h.get? b = some o → h'.get? b = some o) : Co prog w h₀ L mh fr σ h' := by
  obtain ⟨news, F, N, h2, h3, hb, h4⟩ := S
  exact ⟨news, ⟨F.ns.keeps k, fun b o e => k _ _ (F.keep b o e), F.above⟩, fun p hp => ⟨k _ _ (N p hp).1, (N p hp).2⟩, h2, h3, hb, h4⟩
theorem St.kept {fr : List (Addr × Obj)} {h h' : Heap} (S : St prog w F fr σ m h) (k : ∀ b o, h.get? b = some o → h'.get? b = some o) : St prog w F fr σ m h' := by
  obtain ⟨mh, own, n, c⟩ := S
  exact ⟨mh, own, n, c.kept k⟩

/-! binary operators -/
theorem bin_add_int {i j : Int} {Q : AV → Store → Prop} (h : Q (.int (i + j)) σ) : Bin prog w F σ m .Add (.int i) (.int j) Q := by
  intro u v ru rv fr s Q' E S k
  cases ru; cases rv
  exact add_int (k _ _ s.heap _ σ (.int _ _) S h)
theorem bin_mul_int {i j : Int} {Q : AV → Store → Prop} (ok : IntMulOk i j) (h : Q (.int (i * j)) σ) : Bin prog w F σ m .Mult (.int i) (.int j) Q := by
  intro u v ru rv fr s Q' E S k
  cases ru; cases rv
  exact mul_int (k _ _ s.heap _ σ (.int _ _) S h) ok
theorem bin_mod_int {i j : Int} {Q : AV → Store → Prop} (h0 : j ≠ 0) (h : Q (.int (i.fmod j)) σ) : Bin prog w F σ m .Mod (.int i) (.int j) Q := by
  intro u v ru rv fr s Q' E S k
  cases ru; cases rv
  exact mod_int' h0 (k _ _ s.heap _ σ (.int _ _) S h)
theorem bin_div_int {i j : Int} {Q : AV → Store → Prop} (h0 : j ≠ 0) (h1 : j.natAbs.log2 < 9000) (h : Q (.int (i.fdiv j)) σ) : Bin prog w F σ m .FloorDiv (.int i) (.int j) Q := by
  intro u v ru rv fr s Q' E S k
  cases ru; cases rv
  exact floordiv_int h0 (k _ _ s.heap _ σ (.int _ _) S h) (.inl (PyProof.noPylong_of_log2 h1))
theorem bin_add_list {a b : Addr} {xs ys : List AV} {Q : AV → Store → Prop} (ha : σ a = some (.list xs)) (hb : σ b = some (.list ys)) (hz : xs.length + ys.length ≤ small) (h : ∀ c, σ c = none → Q (.ref c) (upd σ c (.list (xs ++ ys)))) : Bin prog w F σ m .Add (.ref a) (.ref b) Q := by
  intro u v ru rv fr s Q' E S k
  cases ru; cases rv
  obtain ⟨vs, r, hl⟩ := S.isList ha
  obtain ⟨us, q, hl'⟩ := S.isList hb
  obtain ⟨mh, own, n, news, F', N, h2, h3, hb', h4⟩ := S
  refine add_arrays F' N hl hl' (fun h' F₂ N₂ => ?_) (by simp only [List.size_toArray, r.length, q.length]; exact small_le hz)
  obtain ⟨fresh, c⟩ := Co.close F' N h2 h3 hb' h4 F₂ N₂ (OR.list (prog := prog) (w := w) 0 (r.append q))
  exact k _ _ h' s.toks _ (.ref _) ⟨mh, own, n, c⟩ (h _ fresh)
theorem bin_add_tup {a b : Addr} {xs ys : List AV} {Q : AV → Store → Prop} (ha : σ a = some (.tup xs)) (hb : σ b = some (.tup ys)) (hz : xs.length + ys.length ≤ small) (h1 : xs = [] → Q (.ref b) σ) (h2' : xs ≠ [] → ys = [] → Q (.ref a) σ) (h : xs ≠ [] → ys ≠ [] → ∀ c, σ c = none → Q (.ref c) (upd σ c (.tup (xs ++ ys)))) : Bin prog w F σ m .Add (.ref a) (.ref b) Q := by
  intro u v ru rv fr s Q' E S k
  cases ru; cases rv
  obtain ⟨vs, r, hl⟩ := S.isTup ha
  obtain ⟨us, q, hl'⟩ := S.isTup hb
  obtain ⟨mh, own, n, news, F', N, h2, h3, hb', h4⟩ := id S
  have e1 : vs = [] ↔ xs = [] := by rw [← List.length_eq_zero_iff, ← List.length_eq_zero_iff, r.length]
  have e2 : us = [] ↔ ys = [] := by rw [← List.length_eq_zero_iff, ← List.length_eq_zero_iff, q.length]
  refine add_tuples F' N hl hl' (fun z => k _ _ s.heap s.toks σ (.ref _) S (h1 (e1.mp z))) (fun z y => k _ _ s.heap s.toks σ (.ref _) S (h2' (fun x => z (e1.mpr x)) (e2.mp y))) (fun z y h' F₂ N₂ => ?_) (by rw [r.length, q.length]; exact small_le hz)
  obtain ⟨fresh, c⟩ := Co.close F' N h2 h3 hb' h4 F₂ N₂ (OR.tup (prog := prog) (w := w) 0 (r.append q))
  exact k _ _ h' s.toks _ (.ref _) ⟨mh, own, n, c⟩ (h (fun x => z (e1.mpr x)) (fun x => y (e2.mpr x)) _ fresh)

/-! subscripts -/
theorem subq_list {value slice : PySem.Expr} {l : Addr} {xs : List AV} {k : Int} {x : AV} {Q : AV → Store → Prop} (hl : σ l = some (.list xs)) (h0 : 0 ≤ k) (h1 : k < 2 ^ 63) (hx : xs[k.toNat]? = some x) (h : Q x σ)
    (hs : ∀ l k t, subscripted slice false (.ref l) (.int k t) = operate [.ref l, .int k t] (getItem (.ref l) (.int k t)) := by intro _ _ _; with_unfolding_all rfl) : sub2Q prog w F m value slice (.ref l) Q (.int k) σ := by
  intro u v ru rv fr s Q' E S k'
  cases ru; cases rv
  obtain ⟨vs, r, hL⟩ := S.isList hl
  obtain ⟨y, hy, ry⟩ := r.get hx
  exact item_litK hL h0 h1 hy (k' _ _ s.heap s.toks σ ry S h) (hs _ _ _)
theorem subq_tup {value slice : PySem.Expr} {l : Addr} {xs : List AV} {k : Int} {x : AV} {Q : AV → Store → Prop} (hl : σ l = some (.tup xs)) (h0 : 0 ≤ k) (h1 : k < 2 ^ 63) (hx : xs[k.toNat]? = some x) (h : Q x σ)
    (hs : ∀ l k t, subscripted slice false (.ref l) (.int k t) = operate [.ref l, .int k t] (getItem (.ref l) (.int k t)) := by intro _ _ _; with_unfolding_all rfl) : sub2Q prog w F m value slice (.ref l) Q (.int k) σ := by
  intro u v ru rv fr s Q' E S k'
  cases ru; cases rv
  obtain ⟨vs, r, hL⟩ := S.isTup hl
  obtain ⟨y, hy, ry⟩ := r.get hx
  have hlt : k.toNat < vs.length := by rw [List.getElem?_eq_some_iff] at hy; exact hy.1
  refine item_tupleT (j := k.toNat) hL (by (first | lia | omega)) h1 ?_ hy (k' _ _ s.heap s.toks σ ry S h) (hs _ _ _)
  unfold seqIndex?
  have : k < (vs.length : Int) := by (first | lia | omega)
  simp [this]
  (first | lia | omega)
theorem subq_dict {value slice : PySem.Expr} {d : Addr} {l : List (PySem.Str × AV)} {x : PySem.Str} {a : AV} {Q : AV → Store → Prop} (hd : σ d = some (.dict l)) (hx : get x l = some a) (h : Q a σ)
    (hs : ∀ l k t, subscripted slice false (.ref l) (.str k t) = operate [.ref l, .str k t] (getItem (.ref l) (.str k t)) := by intro _ _ _; with_unfolding_all rfl) : sub2Q prog w F m value slice (.ref d) Q (.str x) σ := by
  intro u v ru rv fr s Q' E S k'
  cases ru; cases rv
  obtain ⟨kvs, r, D⟩ := S.isDict hd
  exact tail_any D.mapOf.typeIs slot_dict_getitem.lookup (getItem_dict S hd hx fun u tk r => k' _ _ s.heap tk σ r S h) (hs _ _ _)

end Mine
namespace Mine
variable {prog : Program} {w : World} {K : Frag} {F : Fm} {σ : Store} {m : Loc}

theorem subq_list_neg {value slice : PySem.Expr} {l : Addr} {xs : List AV} {k : Int} {x : AV} {Q : AV → Store → Prop} (hl : σ l = some (.list xs)) (h0 : k < 0) (h1 : -(2 ^ 63) ≤ k) (h2 : -(xs.length : Int) ≤ k) (hx : xs[(k + xs.length).toNat]? = some x) (h : Q x σ)
    (hs : ∀ l k t, subscripted slice false (.ref l) (.int k t) = operate [.ref l, .int k t] (getItem (.ref l) (.int k t)) := by intro _ _ _; with_unfolding_all rfl) : sub2Q prog w F m value slice (.ref l) Q (.int k) σ := by
  intro u v ru rv fr s Q' E S k'
  cases ru; cases rv
  obtain ⟨vs, r, hL⟩ := S.isList hl
  obtain ⟨y, hy, ry⟩ := r.get hx
  refine tail_any hL.typeIs slot_list_getitem.lookup (wpAny_getItem_list_neg hL h0 ?_ h1 ?_ (k' _ _ s.heap s.toks σ ry S h)) (hs _ _ _)
  · simp only [List.size_toArray, r.length]; exact h2
  · simp only [List.size_toArray, r.length, List.getElem?_toArray]; exact hy

/-! item stores -/
noncomputable def SetI (prog : Program) (w : World) (F : Fm) (σ : Store) (m : Loc) (o i v : AV) (Q : Store → Prop) : Prop :=
  ∀ ov iv vv, VR o ov → VR i iv → VR v vv → Tr (fun (_ : Unit) (_ : Unit) => True) prog w F σ m (setItem ov iv vv) (fun _ σ' => Q σ')
theorem ex_assign_sub {o i : PySem.Expr} {pos' : Pos} {value : PySem.Expr} {pos : Pos} {Q : Fl → Store → Loc → Prop}
    (h : Ev prog w F σ m value fun v σ₁ => Ev prog w F σ₁ m o fun ov σ₂ => Ev prog w F σ₂ m i fun iv σ₃ => SetI prog w F σ₃ m ov iv v fun σ₄ => Q .next σ₄ m)
    (hs : swapsWith value (some (.Subscript o i pos')) pos.line F.env = pure false := by rfl) : Ex1 prog w F σ m (.Assign [.Subscript o i pos'] value pos) Q := by
  intro fr s Q' E S k
  refine wpAny_Assign_Subscript (h fr s _ E S fun x a h' tk σ' r S' q => q fr _ _ E S' fun y b h' tk σ' r' S' q => q fr _ _ E S' fun z c h' tk σ' rz S' q => ?_) hs
  exact q y z x r' rz r fr _ _ E S' fun _ _ h' tk σ' _ S' q => k _ _ _ _ _ _ .next S' q
theorem seti_list {l : Addr} {xs : List AV} {k : Int} {v : AV} {Q : Store → Prop} (hl : σ l = some (.list xs)) (h0 : 0 ≤ k) (h1 : k < 2 ^ 63) (h2 : k < xs.length) (h : Q (upd σ l (.list (xs.set k.toNat v)))) : SetI prog w F σ m (.ref l) (.int k) v Q := by
  intro ov iv vv ro ri rv fr s Q' E S k'
  cases ro; cases ri
  obtain ⟨r, hg, rr⟩ := S.at hl
  cases rr with
  | @list _ vs n rs =>
    refine ki_setAt hg h0 h1 (by simp only [List.size_toArray, rs.length]; exact h2) ?_
    refine k' () () _ _ _ trivial (S.update hl (Heap.SameBut.update ..) (get?_update_seq hg _) ?_) h
    have e : vs.toArray.setIfInBounds k.toNat vv = (vs.set k.toNat vv).toArray := by
      apply Array.toList_inj.mp
      simp
    rw [e]
    exact OR.list _ (rs.set rv)
theorem seti_dict {d : Addr} {l : List (PySem.Str × AV)} {x : PySem.Str} {v : AV} {Q : Store → Prop} (hd : σ d = some (.dict l)) (hz : l.length ≤ small) (h : Q (upd σ d (.dict (put x v l)))) : SetI prog w F σ m (.ref d) (.str x) v Q := by
  intro ov iv vv ro ri rv fr s Q' E S k'
  cases ro; cases ri
  obtain ⟨kvs, r, D⟩ := S.isDict hd
  have hn : (kvs.map (·.1)).Nodup := by obtain ⟨o, es, ep, _, _, _, _, _, h⟩ := D; exact h
  have hlen : kvs.length = l.length := by have := congrArg List.length r.keys; simpa using this
  refine wpAny_setItem_pairs (strKind_is prog w x _) D (fun h' D' hs => ?_) (by rw [hlen]; exact small_le hz)
  obtain ⟨o, es, ep, g1, g2, g3, g4, g5, g6⟩ := D'
  exact k' () () _ _ _ trivial (S.update hd hs g1 (OR.dict g2 g3 g4 g5 g6 (r.put rv hn))) h

/-! calls of built-ins and types -/
noncomputable def CallB (prog : Program) (w : World) (F : Fm) (σ : Store) (m : Loc) (id : String) (as : List AV) (Q : AV → Store → Prop) : Prop := ∀ vs, VRs as vs → Tr VR prog w F σ m (call (.builtin id) vs) Q
noncomputable def CallTy (prog : Program) (w : World) (F : Fm) (σ : Store) (m : Loc) (T : String) (as : List AV) (Q : AV → Store → Prop) : Prop := ∀ vs, VRs as vs → Tr VR prog w F σ m (call (.type T) vs) Q

noncomputable abbrev cbQ (prog : Program) (w : World) (F : Fm) (m : Loc) (id : String) (Q : AV → Store → Prop) : List AV → Store → Prop := fun as σ₁ => CallB prog w F σ₁ m id as Q
noncomputable abbrev ctQ (prog : Program) (w : World) (F : Fm) (m : Loc) (T : String) (Q : AV → Store → Prop) : List AV → Store → Prop := fun as σ₁ => CallTy prog w F σ₁ m T as Q
theorem ev_callB {x : PySem.Str} {xp pos : Pos} {id : String} {e : PySem.Expr} {rest : List PySem.Expr} {Q : AV → Store → Prop} (O : F.Ok K) (hn : nsIn K mainGlobals x = some none) (hv : bootBuiltins x = some (.builtin id)) (h : EvL prog w F σ m (e :: rest) (cbQ prog w F m id Q))
    (hn' : x ≠ "__name__" := by decide) (hl : F.env.kindOf x = some .globalImplicit := by rfl) (hd : (x == ("__debug__" : PySem.Str)) = false := by rfl)
    (h1 : eval (.Call (.Name x xp) (e :: rest) [] pos) F.env = (do let f ← eval (.Name x xp) F.env; callWith pos f [] (backTo pos (starEach (e :: rest) F.env)) (backToKw pos (keywordEach [] F.env))) := by rfl)
    (h2 : starEach (e :: rest) F.env = (false, eval e F.env) :: starEach rest F.env := by rfl) (h3 : ((backTo pos (starEach rest F.env)).any fun x => x.fst) = false := by rfl) : Ev prog w F σ m (.Call (.Name x xp) (e :: rest) [] pos) Q := by
  intro fr s Q' E S k
  refine Call_ ((ev_built (Q := fun a σ' => a = .blt id ∧ σ' = σ) O hn hv (.blt id) ⟨rfl, rfl⟩ hn' hl hd) fr s _ E S fun f a h' tk σ' r S' q => ?_) h1
  obtain ⟨rfl, rfl⟩ := q
  cases r
  exact PyProof.Rows.callWith_builtin1 (h pos fr _ _ E S' fun vs as h' tk σ' r S' q => q vs r fr _ _ E S' fun x y h₂ tk₂ σ₂ r₂ S₂ q₂ => k _ _ _ _ _ r₂ S₂ q₂) h2 h3
theorem ev_callTy {x : PySem.Str} {xp pos : Pos} {T : String} {e : PySem.Expr} {rest : List PySem.Expr} {Q : AV → Store → Prop} (O : F.Ok K) (hn : nsIn K mainGlobals x = some none) (hv : bootBuiltins x = some (.type T)) (h : EvL prog w F σ m (e :: rest) (ctQ prog w F m T Q))
    (hn' : x ≠ "__name__" := by decide) (hl : F.env.kindOf x = some .globalImplicit := by rfl) (hd : (x == ("__debug__" : PySem.Str)) = false := by rfl)
    (h1 : eval (.Call (.Name x xp) (e :: rest) [] pos) F.env = (do let f ← eval (.Name x xp) F.env; callWith pos f [] (backTo pos (starEach (e :: rest) F.env)) (backToKw pos (keywordEach [] F.env))) := by rfl)
    (h2 : starEach (e :: rest) F.env = (false, eval e F.env) :: starEach rest F.env := by rfl) (h3 : ((backTo pos (starEach rest F.env)).any fun x => x.fst) = false := by rfl) : Ev prog w F σ m (.Call (.Name x xp) (e :: rest) [] pos) Q := by
  intro fr s Q' E S k
  refine Call_ ((ev_built (Q := fun a σ' => a = .typ T ∧ σ' = σ) O hn hv (.typ T) ⟨rfl, rfl⟩ hn' hl hd) fr s _ E S fun f a h' tk σ' r S' q => ?_) h1
  obtain ⟨rfl, rfl⟩ := q
  cases r
  exact Pv.callWith_type1 (h pos fr _ _ E S' fun vs as h' tk σ' r S' q => q vs r fr _ _ E S' fun x y h₂ tk₂ σ₂ r₂ S₂ q₂ => k _ _ _ _ _ r₂ S₂ q₂) h2 h3

theorem one_arg {a : AV} {vs : List Value} (h : VRs [a] vs) : ∃ v, vs = [v] ∧ VR a v := by
  cases h with
  | cons r rs => cases rs; exact ⟨_, rfl, r⟩
theorem two_args {a b : AV} {vs : List Value} (h : VRs [a, b] vs) : ∃ u v, vs = [u, v] ∧ VR a u ∧ VR b v := by
  cases h with
  | cons r rs => cases rs with | cons r' rs => cases rs; exact ⟨_, _, rfl, r, r'⟩

theorem b_len_list {l : Addr} {xs : List AV} {Q : AV → Store → Prop} (hl : σ l = some (.list xs)) (hz : xs.length ≤ small) (h : Q (.int xs.length) σ) : CallB prog w F σ m "len" [.ref l] Q := by
  intro vs r₀ fr s Q' E S k
  obtain ⟨v, rfl, r⟩ := one_arg r₀
  cases r
  obtain ⟨us, r, hL⟩ := S.isList hl
  refine len_list hL (by simp only [List.size_toArray, r.length]; unfold small at hz; (first | lia | omega)) ?_
  simp only [List.size_toArray, r.length]
  exact k _ _ s.heap _ _ (.int _ _) S h
theorem b_len_tup {l : Addr} {xs : List AV} {Q : AV → Store → Prop} (hl : σ l = some (.tup xs)) (hz : xs.length ≤ small) (h : Q (.int xs.length) σ) : CallB prog w F σ m "len" [.ref l] Q := by
  intro vs r₀ fr s Q' E S k
  obtain ⟨v, rfl, r⟩ := one_arg r₀
  cases r
  obtain ⟨us, r, hL⟩ := S.isTup hl
  refine len_tuple hL (by simp only [List.size_toArray, r.length]; unfold small at hz; (first | lia | omega)) ?_
  simp only [List.size_toArray, r.length]
  exact k _ _ s.heap _ _ (.int _ _) S h
theorem b_abs {i : Int} {Q : AV → Store → Prop} (h : Q (.int (if i < 0 then -i else i)) σ) : CallB prog w F σ m "abs" [.int i] Q := by
  intro vs r₀ fr s Q' E S k
  obtain ⟨v, rfl, r⟩ := one_arg r₀
  cases r
  exact call_abs_int fun u tk => k _ _ s.heap tk _ (.int _ _) S h
theorem t_int {i : Int} {Q : AV → Store → Prop} (h : Q (.int i) σ) : CallTy prog w F σ m "int" [.int i] Q := by
  intro vs r₀ fr s Q' E S k
  obtain ⟨v, rfl, r⟩ := one_arg r₀
  cases r
  exact call_int_int (k _ _ s.heap s.toks _ (.int _ _) S h)
theorem t_range {i : Int} {Q : AV → Store → Prop} (h : ∀ a, σ a = none → Q (.ref a) (upd σ a (.rng 0 i))) : CallTy prog w F σ m "range" [.int i] Q := by
  intro vs r₀ fr s Q' E S k
  obtain ⟨v, rfl, r⟩ := one_arg r₀
  cases r
  refine call_range_1 ?_
  obtain ⟨hf, S₂⟩ := S.alloc (OR.rng (prog := prog) (w := w) 0 i s.toks _ (s.toks + 1)) rfl
  exact k _ _ _ _ _ (.ref _) S₂ (h _ hf)
theorem t_tuple_list {l : Addr} {xs : List AV} {Q : AV → Store → Prop} (hl : σ l = some (.list xs)) (hz : xs.length ≤ small) (h : ∀ a, σ a = none → Q (.ref a) (upd σ a (.tup xs))) : CallTy prog w F σ m "tuple" [.ref l] Q := by
  intro vs r₀ fr s Q' E S k
  obtain ⟨v, rfl, r⟩ := one_arg r₀
  cases r
  obtain ⟨us, r, hL⟩ := S.isList hl
  refine call_tuple_list hL (fun h' hk => ?_) (by simp only [List.size_toArray, r.length]; exact small_le hz)
  obtain ⟨hf, S₂⟩ := (S.kept hk).alloc (OR.tup (prog := prog) (w := w) 0 r) rfl
  exact k _ _ _ _ _ (.ref _) S₂ (h _ hf)
theorem t_tuple_tup {l : Addr} {xs : List AV} {Q : AV → Store → Prop} (hl : σ l = some (.tup xs)) (h : Q (.ref l) σ) : CallTy prog w F σ m "tuple" [.ref l] Q := by
  intro vs r₀ fr s Q' E S k
  obtain ⟨v, rfl, r⟩ := one_arg r₀
  cases r
  obtain ⟨us, r, hL⟩ := S.isTup hl
  exact call_tuple_same hL (k _ _ s.heap s.toks _ (.ref _) S h)
theorem St.keptNew {fr : List (Addr × Obj)} {h h' : Heap} {o : AO} {ro : Obj} (S : St prog w F fr σ m h) (k : ∀ b o, h.get? b = some o → h'.get? b = some o) (hg : h'.get? h.objs.size = some ro) (r : OR prog w o ro) : σ h.objs.size = none ∧ St prog w F fr (upd σ h.objs.size o) m h' := by
  obtain ⟨mh, own, n, news, F', N, h2, h3, hb, h4⟩ := S
  have F₂ : Fr F.C.h₀ F.C.L h' mh := ⟨F'.ns.keeps k, fun b o e => k _ _ (F'.keep b o e), F'.above⟩
  obtain ⟨oL, _, _, hL, _⟩ := F'.ns
  have N₂ : News F.C.h₀ F.C.L h' ((h.objs.size, ro) :: news) := fun p hp => by
    rcases List.mem_cons.mp hp with rfl | hp
    · refine ⟨hg, Nat.ne_of_gt (Heap.lt_size hL), ?_⟩
      cases hq : F.C.h₀.get? h.objs.size with
      | none => rfl
      | some o' => exact absurd (Heap.lt_size (F'.keep _ _ hq)) (Nat.lt_irrefl _)
    · exact ⟨k _ _ (N p hp).1, (N p hp).2⟩
  obtain ⟨fresh, c⟩ := Co.close F' N h2 h3 hb h4 F₂ N₂ r
  exact ⟨fresh, mh, own, n, c⟩
theorem t_list_seq {l : Addr} {xs : List AV} {Q : AV → Store → Prop} (hl : σ l = some (.list xs) ∨ σ l = some (.tup xs)) (hz : xs.length ≤ small) (h : ∀ a, σ a = none → Q (.ref a) (upd σ a (.list xs))) : CallTy prog w F σ m "list" [.ref l] Q := by
  intro vs r₀ fr s Q' E S k
  obtain ⟨v, rfl, r⟩ := one_arg r₀
  cases r
  have : ∃ (T : String) (o : Obj) (us : List Value) (n : Nat), (T = "list" ∨ T = "tuple") ∧ s.heap.get? l = some o ∧ o.cls = .type T ∧ o.data = .seq us.toArray n ∧ VRs xs us := by
    rcases hl with hl | hl
    · obtain ⟨us, r, o, h1, h2, n, h3⟩ := S.isList hl
      exact ⟨_, o, us, n, .inl rfl, h1, h2, h3, r⟩
    · obtain ⟨us, r, o, h1, h2, n, h3⟩ := S.isTup hl
      exact ⟨_, o, us, n, .inr rfl, h1, h2, h3, r⟩
  obtain ⟨T, o, us, n, hT, h1, h2, h3, r⟩ := this
  refine PySem.call_list_seq l hT h1 h2 h3 (fun h' c' hk hg => ?_) (by simp only [List.size_toArray, r.length]; exact small_le hz)
  obtain ⟨hf, S₂⟩ := S.keptNew hk hg (OR.list (prog := prog) (w := w) c' r)
  exact k _ _ _ _ _ (.ref _) S₂ (h _ hf)

end Mine
namespace Mine
variable {prog : Program} {w : World} {K : Frag} {F : Fm} {σ : Store} {m : Loc}

/-! calls of the program's functions -/
noncomputable def CallF (prog : Program) (w : World) (F : Fm) (σ : Store) (m : Loc) (f : Addr) (as : List AV) (Q : AV → Store → Prop) : Prop := ∀ vs, VRs as vs → Tr VR prog w F σ m (call (.ref f) vs) Q
theorem CallF.mono {f : Addr} {as : List AV} {Q Q₂ : AV → Store → Prop} (h : CallF prog w F σ m f as Q) (hq : ∀ y σ', Q y σ' → Q₂ y σ') : CallF prog w F σ m f as Q₂ := fun vs r => (h vs r).mono hq

noncomputable abbrev cfQ (prog : Program) (w : World) (F : Fm) (m : Loc) (f : Addr) (Q : AV → Store → Prop) : List AV → Store → Prop := fun as σ₁ => CallF prog w F σ₁ m f as Q
theorem ev_callF {x : PySem.Str} {xp pos : Pos} {f : Addr} {e : PySem.Expr} {rest : List PySem.Expr} {Q : AV → Store → Prop} (O : F.Ok K) (hn : nsIn K mainGlobals x = some (some (.ref f))) (hf : keepIn K (.ref f) = true) (h : EvL prog w F σ m (e :: rest) (cfQ prog w F m f Q))
    (hl : F.env.kindOf x = some .globalImplicit := by rfl) (hd : (x == ("__debug__" : PySem.Str)) = false := by rfl)
    (h1 : eval (.Call (.Name x xp) (e :: rest) [] pos) F.env = (do let f ← eval (.Name x xp) F.env; callWith pos f [] (backTo pos (starEach (e :: rest) F.env)) (backToKw pos (keywordEach [] F.env))) := by rfl)
    (h2 : starEach (e :: rest) F.env = (false, eval e F.env) :: starEach rest F.env := by rfl) (h3 : ((backTo pos (starEach rest F.env)).any fun x => x.fst) = false := by rfl) : Ev prog w F σ m (.Call (.Name x xp) (e :: rest) [] pos) Q := by
  intro fr s Q' E S k
  refine Call_ ((ev_global (Q := fun a σ' => a = .ref f ∧ σ' = σ) O hn ⟨rfl, rfl⟩ hl hd) fr s _ E S fun f' a h' tk σ' r S' q => ?_) h1
  obtain ⟨rfl, rfl⟩ := q
  cases r
  obtain ⟨mh, own, n, news, F', N, _⟩ := id S'
  refine callWith_K O.X hf (h pos fr _ _ E S' fun vs as h₂ tk₂ σ₂ r S₂ q => ⟨?_, q vs r fr _ _ E S₂ fun x y h₃ tk₃ σ₃ r₃ S₃ q₃ => k _ _ _ _ _ r₃ S₃ q₃⟩) h2 h3
  obtain ⟨mh, own, n, news, F', N, _⟩ := id S₂
  exact O.X.keeps F'.keep
theorem ev_callF0 {x : PySem.Str} {xp pos : Pos} {f : Addr} {Q : AV → Store → Prop} (O : F.Ok K) (hn : nsIn K mainGlobals x = some (some (.ref f))) (hf : keepIn K (.ref f) = true) (h : CallF prog w F σ m f [] Q)
    (hl : F.env.kindOf x = some .globalImplicit := by rfl) (hd : (x == ("__debug__" : PySem.Str)) = false := by rfl)
    (h1 : eval (.Call (.Name x xp) [] [] pos) F.env = (do let f ← eval (.Name x xp) F.env; callWith pos f [] (backTo pos (starEach [] F.env)) (backToKw pos (keywordEach [] F.env))) := by rfl) : Ev prog w F σ m (.Call (.Name x xp) [] [] pos) Q := by
  intro fr s Q' E S k
  refine Call_ ((ev_global (Q := fun a σ' => a = .ref f ∧ σ' = σ) O hn ⟨rfl, rfl⟩ hl hd) fr s _ E S fun f' a h' tk σ' r S' q => ?_) h1
  obtain ⟨rfl, rfl⟩ := q
  cases r
  obtain ⟨mh, own, n, news, F', N, _⟩ := id S'
  exact callWith_K0 (O.X.keeps F'.keep) hf (h [] .nil fr _ _ E S' fun x y h₃ tk₃ σ₃ r₃ S₃ q₃ => k _ _ _ _ _ r₃ S₃ q₃)

noncomputable def retOf : Fl → AV
  | .ret v => v
  | _ => .none

theorem get_zip {y : PySem.Str} {v : AV} : ∀ {xs : List PySem.Str} {as : List AV} {vs : List Value}, VRs as vs → get y (xs.zip as) = some v → ∃ u, (xs.zip vs).lookup y = some u ∧ VR v u
  | [], _, _, _, h => by simp [get] at h
  | x :: xs, _, _, .nil, h => by simp [get] at h
  | x :: xs, _, _, .cons r rs, h => by
    simp only [List.zip_cons_cons, get] at h
    simp only [List.zip_cons_cons, List.lookup_cons]
    by_cases q : x = y
    · rw [if_pos q] at h; cases h
      subst q
      exact ⟨_, by simp, r⟩
    · rw [if_neg q] at h
      have : (y == x) = false := by simpa using Ne.symm q
      rw [this]
      exact get_zip rs h
theorem lookup_rev {y : PySem.Str} {u : Value} : ∀ {l : List (PySem.Str × Value)}, (l.map (·.1)).Nodup → l.lookup y = some u → l.reverse.lookup y = some u
  | [], _, h => by simp at h
  | (x, v) :: l, hn, h => by
    rw [List.map_cons, List.nodup_cons] at hn
    rw [List.reverse_cons, List.lookup_append]
    rw [List.lookup_cons] at h
    by_cases q : y = x
    · subst q
      simp only [beq_self_eq_true] at h
      have : l.reverse.lookup y = none := by
        rw [List.lookup_eq_none_iff]
        intro p hp
        have : p.1 ∈ l.map (·.1) := List.mem_map.mpr ⟨p, List.mem_reverse.mp hp, rfl⟩
        simp only [bne_iff_ne, ne_eq]
        intro e
        exact hn.1 (e ▸ this)
      rw [this]
      simp [h]
    · have : (y == x) = false := by simpa using q
      rw [this] at h
      rw [lookup_rev hn.2 h]
      rfl
theorem zip_keys {xs : List PySem.Str} {vs : List Value} (h : xs.length = vs.length) : (xs.zip vs).map (·.1) = xs := by
  rw [List.map_fst_zip]; (first | lia | omega)

theorem nr_mono {cl : Option (PySem.Str × Addr)} {mh : PySem.Str → Option Value} {own : List (Addr × Obj)} {m' : Loc} (h : NRf cl mh own m) (hm : ∀ x v, get x m' = some v → get x m = some v) : NRf cl mh own m' := by
  match cl, h with
  | none, ⟨h1, h2⟩ => exact ⟨h1, fun y v e => h2 y v (hm y v e)⟩
  | some (x, c), ⟨o, vo, h1, h2, h3⟩ => exact ⟨o, vo, h1, h2, fun y v e => h3 y v (hm y v e)⟩

theorem Fr.sz {h₀ h : Heap} {L : Addr} {mh : PySem.Str → Option Value} (F : Fr h₀ L h mh) : h₀.objs.size ≤ h.objs.size := by
  obtain ⟨oL, _, _, hL, _⟩ := F.ns
  exact Nat.le_trans F.above (Nat.le_of_lt (Heap.lt_size hL))

/-- the callee's frame, from the caller's -/
theorem Fm.Ok.inner {q : PySem.Str} {f : Addr} {cd : Value} {sc : Scope} {cl : Option (PySem.Str × Addr)} {g : Heap} {L' : Addr} (O : F.Ok K) (hd : 1 ≤ F.C.d) (hk : sc.kind = .function)
    (B : Below F.C.A F.C.base (F.C.fe :: F.C.outer) g) (X : K.In g) (T : Top F.C.p F.C.loose F.C.mean F.C.mg F.C.mb g) :
    (Fn.fm ⟨⟨g, F.C.base, L', F.C.A.deeper (envX q sc L' f cd cl.toList), F.C.A, F.C.fe :: F.C.outer, envX q sc L' f cd cl.toList, F.C.p, F.C.loose, F.C.mean, F.C.mg, F.C.mb, F.C.d - 1⟩, q, f, cd⟩ sc cl).Ok K where
  B := B
  X := X
  T := T
  hh := O.hh
  hf := Around.frames_deeper B.stack
  hL := rfl
  hke := hk
  hd := by
    have := O.hd
    show F.C.A.depth + 1 + 2 * (F.C.d - 1) < recursionLimit
    (first | lia | omega)
  hu := by
    have := O.hu
    show F.C.A.units + 3 + 20 * (F.C.d - 1) + 20 < cLine
    (first | lia | omega)
  gl := rfl
  bl := rfl
  ek := hk
  mono := fun _ _ _ _ h hm => nr_mono h hm

theorem code_fn {f : Addr} {name qual : PySem.Str} {params : Arguments} {body : List Stmt} {scope : Scope} {dV kV doc pm cdv ct oc : Value} {an od : Option Addr} {osl : Array (Option Value)} {as : List AV} {Q : AV → Store → Prop} (xs : List PySem.Str)
    (O : F.Ok K) (hd : 1 ≤ F.C.d) (hK : List.lookup f K = some { cls := oc, dict := od, data := Data.func (fnOf name qual params body scope dV kV doc pm an cdv ct), slots := osl }) (hc : codeIn K cdv qual = true)
    (hb : ∀ vs : List Value, vs.length = xs.length → bindArgs (fnOf name qual params body scope dV kV doc pm an cdv ct) ⟨vs, []⟩ = pure (xs.zip vs))
    (hn : as.length = xs.length) (hnd : xs.Nodup) (hl : (xs.all fun x => scope.names.lookup x == some .local) = true) (hcell : (scope.names.all fun x => x.2 != .cell) = true)
    (h1 : scope.isCoroutine = false) (h2 : scope.isGenerator = false) (h3 : scope.kind = .function)
    (h : ∀ c : Fn, (c.fm scope none).Ok K → c.C.d + 1 = F.C.d → c.cd = cdv ∧ c.q = qual ∧ (∀ b o, F.C.h₀.get? b = some o → c.C.h₀.get? b = some o) → Ex prog w (c.fm scope none) σ (xs.zip as) body fun fl σ' _ => Q (retOf fl) σ') {vs : List Value} (rs : VRs as vs) {fr : List (Addr × Obj)} {s : Shared} {R : Result → Shared → Prop} (S : St prog w F fr σ m s.heap) (k : ∀ x y h' tk σ', VR y x → St prog w F fr σ' m h' → Q y σ' → R (.ok (.ret x)) { s with heap := h', toks := tk }) : codeAny (model prog w) F.C.A (.call (.ref f) ⟨vs, []⟩) R s := by
  obtain ⟨mh, own, n, news, F', N, S2, S3, Sb, S4⟩ := id S
  have hlen : vs.length = xs.length := rs.length.trans hn
  have hkeys := zip_keys hlen.symm
  refine code_def (Below.mk O.B.stack O.B.stays O.B.frames) F' O.X N O.T O.hf O.hL O.hke hK hc (by have := O.hd; (first | lia | omega)) (BindsTo.of_eq (hb vs hlen)) ?_ ?_ h1 h2 h3 ?_
  · intro y hy
    have : y.1 ∈ xs := hkeys ▸ List.mem_map.mpr ⟨y, hy, rfl⟩
    simpa using List.all_eq_true.mp hl _ this
  · intro g L' h₁ Fg F₁ N₁ B X T
    let c : Fn := ⟨⟨g, F.C.base, L', F.C.A.deeper (envX qual scope L' f cdv []), F.C.A, F.C.fe :: F.C.outer, envX qual scope L' f cdv [], F.C.p, F.C.loose, F.C.mean, F.C.mg, F.C.mb, F.C.d - 1⟩, qual, f, cdv⟩
    have Oc : (c.fm scope none).Ok K := Fm.Ok.inner (q := qual) (f := f) (cd := cdv) (sc := scope) (cl := none) (L' := L') O hd h3 B X T
    refine h c Oc (by show F.C.d - 1 + 1 = F.C.d; (first | lia | omega)) ⟨rfl, rfl, Fg.keep⟩ (own ++ fr) ⟨h₁, _, _, _, _⟩ _ _ ?_ ?_
    · refine ⟨_, [], ⟨⟨rfl, fun y v e => ?_⟩, fun p hp => nomatch hp⟩, news, F₁, N₁, S2, S3, Nat.lt_of_lt_of_le Sb (Fr.sz Fg), S4⟩
      obtain ⟨u, a, b⟩ := get_zip rs e
      exact ⟨u, lookup_rev (by rw [hkeys]; exact hnd) a, b⟩
    · intro fl a h' tk σ' m' r S' q
      obtain ⟨mh', own', n', news', F₂, N₂, T2, T3, Tb, T4⟩ := S'
      refine leaveK_ F₂ N₂ fun F₃ N₃ => ?_
      have S₃ : St prog w F fr σ' m h' := ⟨mh, own, n, news', F₃, N₃, fun p hp => T2 p (List.mem_append_right _ hp), T3, Sb, T4⟩
      cases r with
      | ret r => exact k _ _ h' tk σ' r S₃ q
      | next => exact k _ _ h' tk σ' .none S₃ q
      | brk => exact k _ _ h' tk σ' .none S₃ q
      | cont => exact k _ _ h' tk σ' .none S₃ q
  · intro x hx
    simpa using List.all_eq_true.mp hcell x hx

theorem call_fn {f : Addr} {name qual : PySem.Str} {params : Arguments} {body : List Stmt} {scope : Scope} {dV kV doc pm cdv ct oc : Value} {an od : Option Addr} {osl : Array (Option Value)} {as : List AV} {Q : AV → Store → Prop} (xs : List PySem.Str)
    (O : F.Ok K) (hd : 1 ≤ F.C.d) (hK : List.lookup f K = some { cls := oc, dict := od, data := Data.func (fnOf name qual params body scope dV kV doc pm an cdv ct), slots := osl }) (hc : codeIn K cdv qual = true)
    (hb : ∀ vs : List Value, vs.length = xs.length → bindArgs (fnOf name qual params body scope dV kV doc pm an cdv ct) ⟨vs, []⟩ = pure (xs.zip vs))
    (hn : as.length = xs.length) (hnd : xs.Nodup) (hl : (xs.all fun x => scope.names.lookup x == some .local) = true) (hcell : (scope.names.all fun x => x.2 != .cell) = true)
    (h1 : scope.isCoroutine = false) (h2 : scope.isGenerator = false) (h3 : scope.kind = .function)
    (h : ∀ c : Fn, (c.fm scope none).Ok K → c.C.d + 1 = F.C.d → c.cd = cdv ∧ c.q = qual ∧ (∀ b o, F.C.h₀.get? b = some o → c.C.h₀.get? b = some o) → Ex prog w (c.fm scope none) σ (xs.zip as) body fun fl σ' _ => Q (retOf fl) σ') : CallF prog w F σ m f as Q := by
  intro vs rs fr s Q' E S k
  exact wpAny_call (code_fn xs O hd hK hc hb hn hnd hl hcell h1 h2 h3 h rs S fun x y h' tk σ' r S' q => k x y h' tk σ' r S' q)

end Mine
namespace Mine
variable {prog : Program} {w : World} {K : Frag} {F : Fm} {σ : Store} {m : Loc}

theorem bindL_off {kd : PySem.Str → Option NameKind} {y : PySem.Str} : ∀ {l : List (PySem.Str × Value)} {mm : PySem.Str → Option Value}, y ∉ l.map (·.1) → bindL kd l mm y = mm y
  | [], mm, _ => rfl
  | (n, v) :: r, mm, h => by
    rw [List.map_cons, List.mem_cons, not_or] at h
    unfold bindL
    rw [bindL_off h.2]
    split
    · exact if_neg h.1
    · rfl
theorem bindL_on {kd : PySem.Str → Option NameKind} {y : PySem.Str} {u : Value} (hk : kd y = some .local) : ∀ {l : List (PySem.Str × Value)} {mm : PySem.Str → Option Value}, (l.map (·.1)).Nodup → l.lookup y = some u → bindL kd l mm y = some u
  | [], mm, _, h => by simp at h
  | (n, v) :: r, mm, hn, h => by
    rw [List.map_cons, List.nodup_cons] at hn
    rw [List.lookup_cons] at h
    unfold bindL
    by_cases q : y = n
    · subst q
      simp only [beq_self_eq_true] at h
      rw [bindL_off hn.1, if_pos hk, if_pos rfl]; exact h
    · have : (y == n) = false := by simpa using q
      rw [this] at h
      exact bindL_on hk hn.2 h
theorem bindC_off {kd : PySem.Str → Option NameKind} {y : PySem.Str} : ∀ {l : List (PySem.Str × Value)} {mm : PySem.Str → Option Value}, y ∉ l.map (·.1) → bindC kd l mm y = mm y
  | [], mm, _ => rfl
  | (n, v) :: r, mm, h => by
    rw [List.map_cons, List.mem_cons, not_or] at h
    unfold bindC
    rw [bindC_off h.2]
    split
    · rfl
    · exact if_neg h.1
theorem bindC_on {kd : PySem.Str → Option NameKind} {y : PySem.Str} {u : Value} (hk : kd y ≠ some .local) : ∀ {l : List (PySem.Str × Value)} {mm : PySem.Str → Option Value}, (l.map (·.1)).Nodup → l.lookup y = some u → bindC kd l mm y = some u
  | [], mm, _, h => by simp at h
  | (n, v) :: r, mm, hn, h => by
    rw [List.map_cons, List.nodup_cons] at hn
    rw [List.lookup_cons] at h
    unfold bindC
    by_cases q : y = n
    · subst q
      simp only [beq_self_eq_true] at h
      rw [bindC_off hn.1, if_neg hk, if_pos rfl]; exact h
    · have : (y == n) = false := by simpa using q
      rw [this] at h
      exact bindC_on hk hn.2 h

theorem call_fnC {f : Addr} {name qual : PySem.Str} {params : Arguments} {body : List Stmt} {scope : Scope} {dV kV doc pm cdv ct oc : Value} {an od : Option Addr} {osl : Array (Option Value)} {as : List AV} {Q : AV → Store → Prop} (xs : List PySem.Str) (x : PySem.Str)
    (O : F.Ok K) (hd : 1 ≤ F.C.d) (hK : List.lookup f K = some { cls := oc, dict := od, data := Data.func (fnOf name qual params body scope dV kV doc pm an cdv ct), slots := osl }) (hc : codeIn K cdv qual = true)
    (hb : ∀ vs : List Value, vs.length = xs.length → bindArgs (fnOf name qual params body scope dV kV doc pm an cdv ct) ⟨vs, []⟩ = pure (xs.zip vs))
    (hn : as.length = xs.length) (hnd : xs.Nodup) (hl : (xs.all fun y => if y = x then scope.names.lookup y == some .cell else scope.names.lookup y == some .local) = true)
    (hcell : ∀ n, cellsFrom n scope.names [] = [(x, n)])
    (h1 : scope.isCoroutine = false) (h2 : scope.isGenerator = false) (h3 : scope.kind = .function)
    (h : ∀ (c : Fn) (ca : Addr), (c.fm scope (some (x, ca))).Ok K → c.C.d + 1 = F.C.d → Ex prog w (c.fm scope (some (x, ca))) σ (xs.zip as) body fun fl σ' _ => Q (retOf fl) σ') : CallF prog w F σ m f as Q := by
  intro vs rs fr s Q' E S k
  obtain ⟨mh, own, n, news, F', N, S2, S3, Sb, S4⟩ := id S
  have hlen : vs.length = xs.length := rs.length.trans hn
  have hkeys := zip_keys hlen.symm
  have hnd' : ((xs.zip vs).map (·.1)).Nodup := by rw [hkeys]; exact hnd
  have hall : ∀ y ∈ xs, (y = x → scope.names.lookup y = some .cell) ∧ (y ≠ x → scope.names.lookup y = some .local) := by
    intro y hy
    have := List.all_eq_true.mp hl _ hy
    by_cases q : y = x
    · rw [if_pos q] at this
      exact ⟨fun _ => by simpa using this, fun z => absurd q z⟩
    · rw [if_neg q] at this
      exact ⟨fun z => absurd z q, fun _ => by simpa using this⟩
  refine wpAny_call (code_defC (Below.mk O.B.stack O.B.stays O.B.frames) F' O.X N O.T O.hf O.hL O.hke hK hc (by have := O.hd; (first | lia | omega)) (BindsTo.of_eq (hb vs hlen)) ?_ ?_ ?_ h1 h2 h3)
  · refine List.all_eq_true.mpr fun y hy => ?_
    have hm : y.1 ∈ xs := hkeys ▸ List.mem_map.mpr ⟨y, hy, rfl⟩
    by_cases q : y.1 = x
    · rw [(hall _ hm).1 q]; rfl
    · rw [(hall _ hm).2 q]; rfl
  · rw [hcell]; simp
  · intro g L' h₁ tk cells Fg F₁ N₁ Cs B X T hlow
    have ec : envOfC qual scope L' f cdv = envX qual scope L' f cdv [(x, L' + 1)] := by
      unfold envOfC; rw [hcell]
    rw [ec]
    let c : Fn := ⟨⟨g, F.C.base, L', F.C.A.deeper (envX qual scope L' f cdv [(x, L' + 1)]), F.C.A, F.C.fe :: F.C.outer, envX qual scope L' f cdv [(x, L' + 1)], F.C.p, F.C.loose, F.C.mean, F.C.mg, F.C.mb, F.C.d - 1⟩, qual, f, cdv⟩
    have Oc : (c.fm scope (some (x, L' + 1))).Ok K := Fm.Ok.inner (q := qual) (f := f) (cd := cdv) (sc := scope) (cl := some (x, L' + 1)) (L' := L') O hd h3 B X T
    have hcs : ∃ o, cells = [(L' + 1, o)] ∧ o.data = .cell (bindC (envOfC qual scope L' f cdv).kindOf (xs.zip vs) (fun _ => none) x) := by
      rw [hcell] at Cs
      cases Cs with
      | cons hd hr => cases hr; exact ⟨_, rfl, hd⟩
    obtain ⟨o, rfl, hdat⟩ := hcs
    refine h c (L' + 1) Oc (by show F.C.d - 1 + 1 = F.C.d; (first | lia | omega)) (own ++ fr) ⟨h₁, _, _, _, _⟩ _ _ ?_ ?_
    · refine ⟨_, [(L' + 1, o)], ⟨⟨o, _, rfl, hdat, fun y v e => ?_⟩, fun p hp q hq e => ?_⟩, (L' + 1, o) :: news, F₁, N₁, fun p hp => ?_, fun a o' e => ?_, Nat.lt_of_lt_of_le Sb (Fr.sz Fg), S4⟩
      · obtain ⟨u, a, b⟩ := get_zip rs e
        have hm : y ∈ xs := by
          rw [← hkeys]
          exact List.mem_map.mpr ⟨(y, u), by
            have := List.lookup_eq_some_iff.mp a
            obtain ⟨l₁, l₂, e, _⟩ := this
            rw [e]; simp, rfl⟩
        refine ⟨u, ?_, b⟩
        by_cases q : y = x
        · rw [if_pos q]
          subst q
          exact bindC_on (by show scope.names.lookup y ≠ _; rw [(hall _ hm).1 rfl]; simp) hnd' a
        · rw [if_neg q]
          exact bindL_on ((hall _ hm).2 q) hnd' a
      · rcases List.mem_cons.mp hp with rfl | hp
        · have := hlow _ (S2 q hq).1
          rw [← e] at this
          exact absurd this (by simp)
        · cases hp
      · rcases List.mem_cons.mp hp with rfl | hp
        · refine ⟨.head _, ?_⟩
          cases q : σ (L' + 1) with
          | none => rfl
          | some o' =>
            obtain ⟨ro, hm, _⟩ := S3 _ _ q
            have := hlow _ hm
            exact absurd this (by simp)
        · exact ⟨.tail _ (S2 p hp).1, (S2 p hp).2⟩
      · obtain ⟨ro, hm, r⟩ := S3 a o' e
        exact ⟨ro, .tail _ hm, r⟩
    · intro fl a h' tk σ' m' r S' q
      obtain ⟨mh', own', n', news', F₂, N₂, T2, T3, Tb, T4⟩ := S'
      refine leaveK_ F₂ N₂ fun F₃ N₃ => ?_
      have S₃ : St prog w F fr σ' m h' := ⟨mh, own, n, news', F₃, N₃, fun p hp => T2 p (List.mem_append_right _ hp), T3, Sb, T4⟩
      cases r with
      | ret r => exact k _ _ h' tk σ' r S₃ q
      | next => exact k _ _ h' tk σ' .none S₃ q
      | brk => exact k _ _ h' tk σ' .none S₃ q
      | cont => exact k _ _ h' tk σ' .none S₃ q

end Mine
namespace Mine
variable {prog : Program} {w : World} {K : Frag} {F : Fm} {σ : Store} {m : Loc}

/-! methods of built-in types -/
noncomputable def MethOk (σ : Store) (ov : AV) (name : PySem.Str) (id : String) : Prop :=
  ∃ l, ov = .ref l ∧ typeOf (Value.builtin id) = pure (Value.type "method_descriptor") ∧ (((∃ xs, σ l = some (.list xs)) ∧ Slot "list" name id) ∨ ((∃ xs, σ l = some (.dict xs)) ∧ Slot "dict" name id))
theorem meth_get {A : Around} {ov : AV} {v : Value} {name : PySem.Str} {id : String} {fr : List (Addr × Obj)} {s : Shared} {pl : Sem Bool} {Q : Value × List Value → Shared → Prop} {E : Value → Shared → Prop} (S : St prog w F fr σ m s.heap) (ok : MethOk σ ov name id) (r : VR ov v) (h : Q (.builtin id, [v]) s) :
    wpAny (model prog w) A (getMethod v name pl) Q E s := by
  obtain ⟨l, rfl, ty, ok⟩ := ok
  cases r
  rcases ok with ⟨⟨xs, hl⟩, sl⟩ | ⟨⟨xs, hl⟩, sl⟩
  · obtain ⟨ro, hg, rr⟩ := S.at hl
    cases rr with
    | list n rs =>
      exact getMethod_builtin (Heap.IsList.typeIs ⟨_, hg, rfl, n, rfl⟩) PySem.F.plainAttrs_list sl ty (fun a e => by cases e; exact ⟨_, hg, rfl⟩) h
  · obtain ⟨kvs, r, D⟩ := S.isDict hl
    exact getMethod_builtin D.mapOf.typeIs PySem.F.plainAttrs_dict sl ty (fun a e => by cases e; exact D.mapOf.noDict _ rfl) h
noncomputable abbrev meth0Q (prog : Program) (w : World) (F : Fm) (m : Loc) (name : PySem.Str) (Q : AV → Store → Prop) : AV → Store → Prop := fun ov σ₁ => ∃ id, MethOk σ₁ ov name id ∧ CallB prog w F σ₁ m id [ov] Q
noncomputable abbrev methbQ (prog : Program) (w : World) (F : Fm) (m : Loc) (id : String) (ov : AV) (Q : AV → Store → Prop) : List AV → Store → Prop := fun as σ₂ => CallB prog w F σ₂ m id (ov :: as) Q
noncomputable abbrev meth1Q (prog : Program) (w : World) (F : Fm) (m : Loc) (name : PySem.Str) (es : List PySem.Expr) (Q : AV → Store → Prop) : AV → Store → Prop := fun ov σ₁ => ∃ id, MethOk σ₁ ov name id ∧ EvL prog w F σ₁ m es (methbQ prog w F m id ov Q)
theorem ev_meth0 {o : PySem.Expr} {name : PySem.Str} {apos pos : Pos} {pl : Sem Bool} {Q : AV → Store → Prop} (h : Ev prog w F σ m o (meth0Q prog w F m name Q))
    (h1 : eval ((o.Attribute name apos).Call [] [] pos) F.env = (do
          let ov ← eval o F.env
          standAt apos.atName
          let __x ← holding [ov] (getMethod ov name pl)
          match __x with
            | (f, first) => callWith pos f first (backTo pos (starEach [] F.env)) []) := by rfl) : Ev prog w F σ m ((o.Attribute name apos).Call [] [] pos) Q := by
  intro fr s Q' E S k
  refine MethodCall_ (h fr s _ E S fun v a h' tk σ' r S' q => ?_) h1
  obtain ⟨id, ok, q⟩ := q
  refine meth_get S' ok r ?_
  exact callWith_method0 (q [v] (.cons r .nil) fr _ _ E S' fun x y h₃ tk₃ σ₃ r₃ S₃ q₃ => k _ _ _ _ _ r₃ S₃ q₃)
theorem ev_meth1 {o : PySem.Expr} {name : PySem.Str} {apos pos : Pos} {e : PySem.Expr} {rest : List PySem.Expr} {pl : Sem Bool} {Q : AV → Store → Prop} (h : Ev prog w F σ m o (meth1Q prog w F m name (e :: rest) Q))
    (h1 : eval ((o.Attribute name apos).Call (e :: rest) [] pos) F.env = (do
          let ov ← eval o F.env
          standAt apos.atName
          let __x ← holding [ov] (getMethod ov name pl)
          match __x with
            | (f, first) => callWith pos f first (backTo pos (starEach (e :: rest) F.env)) []) := by rfl)
    (h2 : starEach (e :: rest) F.env = (false, eval e F.env) :: starEach rest F.env := by rfl) (h3 : ((backTo pos (starEach rest F.env)).any fun x => x.fst) = false := by rfl) : Ev prog w F σ m ((o.Attribute name apos).Call (e :: rest) [] pos) Q := by
  intro fr s Q' E S k
  refine MethodCall_ (h fr s _ E S fun v a h' tk σ' r S' q => ?_) h1
  obtain ⟨id, ok, q⟩ := q
  refine meth_get S' ok r ?_
  exact PyProof.Rows.callWith_method1 (q pos fr _ _ E S' fun vs as h₂ tk₂ σ₂ r₂ S₂ q₂ => q₂ (v :: vs) (.cons r r₂) fr _ _ E S₂ fun x y h₃ tk₃ σ₃ r₃ S₃ q₃ => k _ _ _ _ _ r₃ S₃ q₃) h2 h3

theorem m_append {σ : Store} {l : Addr} {xs : List AV} (h : σ l = some (.list xs)) : MethOk σ (.ref l) (Str.ofString "append") "list.append" := ⟨l, rfl, PySem.F.type_list_append, .inl ⟨⟨xs, h⟩, PySem.F.slot_list_append⟩⟩
theorem m_pop {σ : Store} {l : Addr} {xs : List AV} (h : σ l = some (.list xs)) : MethOk σ (.ref l) (Str.ofString "pop") "list.pop" := ⟨l, rfl, PySem.F.type_list_pop, .inl ⟨⟨xs, h⟩, PySem.F.slot_list_pop⟩⟩
theorem m_reverse {σ : Store} {l : Addr} {xs : List AV} (h : σ l = some (.list xs)) : MethOk σ (.ref l) (Str.ofString "reverse") "list.reverse" := ⟨l, rfl, PySem.F.type_list_reverse, .inl ⟨⟨xs, h⟩, PySem.F.slot_list_reverse⟩⟩
theorem m_extend {σ : Store} {l : Addr} {xs : List AV} (h : σ l = some (.list xs)) : MethOk σ (.ref l) (Str.ofString "extend") "list.extend" := ⟨l, rfl, PySem.F.type_list_extend, .inl ⟨⟨xs, h⟩, PySem.F.slot_list_extend⟩⟩
theorem m_get {σ : Store} {l : Addr} {xs : List (PySem.Str × AV)} (h : σ l = some (.dict xs)) : MethOk σ (.ref l) (Str.ofString "get") "dict.get" := ⟨l, rfl, PySem.F.type_dict_get, .inr ⟨⟨xs, h⟩, PySem.F.slot_dict_get⟩⟩

theorem b_append {l : Addr} {xs : List AV} {v : AV} {Q : AV → Store → Prop} (hl : σ l = some (.list xs)) (hz : xs.length ≤ small) (h : Q .none (upd σ l (.list (xs ++ [v])))) : CallB prog w F σ m "list.append" [.ref l, v] Q := by
  intro vs r₀ fr s Q' E S k
  obtain ⟨u, v', rfl, ru, rv⟩ := two_args r₀
  cases ru
  obtain ⟨mh, own, n, c⟩ := S
  obtain ⟨ro, rest, F', N, r, hne, hold, close⟩ := c.open hl
  cases r with
  | @list _ us n' rs =>
    refine W.append_K F' N (.head hne) (fun h' F₂ N₂ => ?_) (by simp only [List.size_toArray, rs.length]; exact small_le hz)
    refine k _ _ h' s.toks _ .none ⟨mh, own, n, close h' (.list (xs ++ [v])) _ F₂ N₂ ?_⟩ h
    have : us.toArray.push v' = (us ++ [v']).toArray := by simp
    rw [this]
    exact OR.list _ (rs.append (.cons rv .nil))
theorem b_pop0 {l : Addr} {x : AV} {xs : List AV} {Q : AV → Store → Prop} (hl : σ l = some (.list (x :: xs))) (hz : xs.length < small) (h : Q x (upd σ l (.list xs))) : CallB prog w F σ m "list.pop" [.ref l, .int 0] Q := by
  intro vs r₀ fr s Q' E S k
  obtain ⟨u, v', rfl, ru, rv⟩ := two_args r₀
  cases ru; cases rv
  obtain ⟨mh, own, n, c⟩ := S
  obtain ⟨ro, rest, F', N, r, hne, hold, close⟩ := c.open hl
  cases r with
  | @list _ us n' rs =>
    cases rs with
    | @cons _ y _ ys r rs =>
      refine kl_popAt (k := 0) (p := []) (q := ys) (y := y) F' N (by decide) ?_ (by rfl) (.head hne) ?_ (fun h' F₂ N₂ => ?_)
      · unfold seqIndex?; simp
      · simp only [List.length_cons, rs.length]; exact small_le hz
      · exact k _ _ h' s.toks _ r ⟨mh, own, n, close h' (.list xs) _ F₂ N₂ (OR.list _ rs)⟩ h
theorem b_reverse {l : Addr} {xs : List AV} {Q : AV → Store → Prop} (hl : σ l = some (.list xs)) (hz : xs.length ≤ small) (h : Q .none (upd σ l (.list xs.reverse))) : CallB prog w F σ m "list.reverse" [.ref l] Q := by
  intro vs r₀ fr s Q' E S k
  obtain ⟨u, rfl, ru⟩ := one_arg r₀
  cases ru
  obtain ⟨mh, own, n, c⟩ := S
  obtain ⟨ro, rest, F', N, r, hne, hold, close⟩ := c.open hl
  cases r with
  | @list _ us n' rs =>
    refine kl_reverse (l := us.reverse) F' N (by simp) (.head hne) (by simp only [rs.length]; exact small_le hz) (fun h' F₂ N₂ => ?_)
    exact k _ _ h' s.toks _ .none ⟨mh, own, n, close h' (.list xs.reverse) _ F₂ N₂ (OR.list _ rs.reverse)⟩ h
theorem b_extend {l b : Addr} {xs ys : List AV} {Q : AV → Store → Prop} (hl : σ l = some (.list xs)) (hb : σ b = some (.list ys)) (hlb : b ≠ l) (hz : xs.length + ys.length ≤ small) (h : Q .none (upd σ l (.list (xs ++ ys)))) : CallB prog w F σ m "list.extend" [.ref l, .ref b] Q := by
  intro vs r₀ fr s Q' E S k
  obtain ⟨u, v', rfl, ru, rv⟩ := two_args r₀
  cases ru; cases rv
  obtain ⟨mh, own, n, c⟩ := S
  obtain ⟨ro, rest, F', N, r, hne, hold, close⟩ := c.open hl
  obtain ⟨rb, hbm, rr⟩ := hold b _ hlb hb
  cases r with
  | @list _ us n' rs =>
    cases rr with
    | @list _ us2 n2 rs2 =>
      have e1 := rs.length
      have e2 := rs2.length
      have big : ¬(!us.toArray.isEmpty && Builtin.List.listTooLong (us.toArray.size + us2.toArray.size)) = true := by
        intro q
        rw [Bool.and_eq_true] at q
        have := q.2
        unfold Builtin.List.listTooLong at this
        simp only [List.size_toArray, e1, e2] at this
        have hs := small_le hz
        simp at this
        (first | lia | omega)
      by_cases hy : us2 = []
      · subst hy
        have : ys = [] := by rw [← List.length_eq_zero_iff, ← e2]; rfl
        subst this
        refine kxn_extend F' N (.tail _ hbm) (by rfl) (.head hne) big (by simp only [rs.length]; exact small_le (by (first | lia | omega))) (by simp only [List.size_toArray, e1, e2]; exact Nat.le_succ_of_le (small_le (by (first | lia | omega)))) (fun h' F₂ N₂ => ?_)
        exact k _ _ h' s.toks _ .none ⟨mh, own, n, close h' (.list (xs ++ [])) _ F₂ N₂ (by rw [List.append_nil]; exact OR.list _ rs)⟩ h
      · refine kl_extend (l := us ++ us2) F' N (.tail _ hbm) (by simp) (by simpa using hy) (.head hne) big (by simp only [rs.length]; exact small_le (by (first | lia | omega))) (by simp only [List.size_toArray, e1, e2]; exact Nat.le_succ_of_le (small_le (by (first | lia | omega)))) (fun h' F₂ N₂ => ?_)
        exact k _ _ h' s.toks _ .none ⟨mh, own, n, close h' (.list (xs ++ ys)) _ F₂ N₂ (OR.list _ (rs.append rs2))⟩ h
theorem three_args {a b c : AV} {vs : List Value} (h : VRs [a, b, c] vs) : ∃ u v z, vs = [u, v, z] ∧ VR a u ∧ VR b v ∧ VR c z := by
  cases h with
  | cons r rs => obtain ⟨u, v, rfl, h1, h2⟩ := two_args rs; exact ⟨_, _, _, rfl, r, h1, h2⟩
theorem b_dget {d : Addr} {l : List (PySem.Str × AV)} {x : PySem.Str} {v : AV} {Q : AV → Store → Prop} (hd : σ d = some (.dict l)) (h : Q ((get x l).getD v) σ) : CallB prog w F σ m "dict.get" [.ref d, .str x, v] Q := by
  intro vs r₀ fr s Q' E S k
  obtain ⟨u, y, z, rfl, ru, ry, rz⟩ := three_args r₀
  cases ru; cases ry
  obtain ⟨kvs, r, D⟩ := S.isDict hd
  refine call_meetsIn PySem.F.slot_dict_get D.mapOf.typeIs PySem.F.entry_dict_get (PySem.F.args_dict_get_3 _ _ _) (meets_dict_get_default (strKind prog w) _ (strKind_is prog w x _) (S.notMod hd) _) ⟨_, D.mapOf, ?_⟩
  refine k _ _ s.heap _ σ ?_ S h
  cases q : get x l with
  | none => rw [(r.find x).2 q]; exact rz
  | some a => obtain ⟨u', h1, h2⟩ := (r.find x).1 a q; rw [h1]; exact h2

end Mine
namespace Mine
variable {prog : Program} {w : World} {K : Frag} {F : Fm} {σ : Store} {m : Loc}

/-! instances -/
theorem isStr_str (x y : PySem.Str) (t : Tok) : (Value.str x t).isStr y = (x == y) := rfl
theorem ERs.getL (x : PySem.Str) {l : List (PySem.Str × AV)} {es : List DictEntry} (hh : ERs w l es) : (∀ v, get x l = some v → ∃ u, W.getL x es = some (some u) ∧ VR v u) ∧ (get x l = none → W.getL x es = some none) := by
  induction hh with
  | nil => exact ⟨fun v h => (by cases h), fun _ => rfl⟩
  | @cons p e' ps es hd rs ih =>
    cases hd with
    | @mk y t a v r =>
    obtain ⟨h1, h2⟩ := ih
    unfold Mine.get
    by_cases q : y = x
    · rw [if_pos q]
      refine ⟨fun v' h => ?_, fun h => (by cases h)⟩
      obtain rfl := Option.some.inj h
      refine ⟨_, ?_, r⟩
      unfold W.getL
      rw [List.find?_cons]
      simp only [isStr_str, q, beq_self_eq_true]
    · rw [if_neg q]
      have e : (y == x) = false := by simpa using q
      have key : ∀ v es, W.getL x (⟨PyData.keyHash w.params y, Value.str y t, v⟩ :: es) = W.getL x es := by
        intro v es
        unfold W.getL
        rw [List.find?_cons]
        simp only [isStr_str, e]
        cases List.find? (fun z => z.key.isStr x) es <;> rfl
      rw [key]
      exact ⟨h1, h2⟩
theorem ERs.putL (x : PySem.Str) (t : Tok) {v : AV} {u : Value} (r : VR v u) {l : List (PySem.Str × AV)} {es : List DictEntry} (hh : ERs w l es) : ERs w (put x v l) (W.putL x (PyData.keyHash w.params x) (.str x t) u es) := by
  induction hh with
  | nil => exact .cons (.mk x t r) .nil
  | @cons p e' ps es hd rs ih =>
    cases hd with
    | @mk y t' a v' r' =>
    unfold Mine.put W.putL
    simp only [isStr_str]
    by_cases q : y = x
    · subst q
      rw [if_pos rfl]
      simp only [beq_self_eq_true, if_true]
      exact .cons (.mk y t' r) rs
    · have e : (y == x) = false := by simpa using q
      rw [if_neg q]
      simp only [e]
      exact .cons (.mk y t' r') ih
theorem ERs.length {l : List (PySem.Str × AV)} {es : List DictEntry} (h : ERs w l es) : es.length = l.length := by
  induction h with
  | nil => rfl
  | cons _ _ ih => rw [List.length_cons, List.length_cons, ih]

noncomputable def AttrOk (K : Frag) (C : Addr) (name : PySem.Str) : Prop := plainGet K C name = true ∧ hasDictIn K C = true ∧ ∃ attr, findIn K (.ref C) name = some attr ∧ noGet K attr = true
noncomputable def notBlt : AV → Bool
  | .blt _ => false
  | _ => true
theorem handed {a : AV} {v : Value} (r : VR a v) (h : notBlt a = true) : handedIn v = true := by
  cases r <;> first | rfl | cases h

theorem St.instAt {fr : List (Addr × Obj)} {h : Heap} {x C dx : Addr} {l : List (PySem.Str × AV)} (S : St prog w F fr σ m h) (hx : σ x = some (.inst C dx)) (hd : σ dx = some (.idict l)) : ∃ es n, ERs w l es ∧ W.InstAt h x (instObj C dx) C (some (dictOf es n)) := by
  obtain ⟨ro, hg, r⟩ := S.at hx
  obtain ⟨rd, hgd, rd'⟩ := S.at hd
  cases r
  cases rd' with
  | idict n rs => exact ⟨_, n, rs, .mk hg rfl rfl hgd⟩

theorem ev_attr {value : PySem.Expr} {name : PySem.Str} {pos : Pos} {Q : AV → Store → Prop} (O : F.Ok K) (h : Ev prog w F σ m value fun ov σ₁ => ∃ x C dx l v, ov = .ref x ∧ σ₁ x = some (.inst C dx) ∧ σ₁ dx = some (.idict l) ∧ get name l = some v ∧ notBlt v = true ∧ AttrOk K C name ∧ Q v σ₁)
    (he : eval (value.Attribute name pos) F.env = (do
          let o ← eval value F.env
          standAt pos.atName
          let r ← holding [o] (getAttr o name true)
          letTemporaryGo value o r
          pure r) := by rfl) : Ev prog w F σ m (.Attribute value name pos) Q := by
  intro fr s Q' E S k
  refine Attribute_any_ (h fr s _ E S fun v a h' tk σ' r S' q => ?_) he
  obtain ⟨x, C, dx, l, v', rfl, hx, hd, hv, hb, ⟨p1, p2, attr, p3, p4⟩, q⟩ := q
  cases r
  obtain ⟨es, n, rs, I⟩ := S'.instAt hx hd
  obtain ⟨u, hu, ru⟩ := (rs.getL name).1 _ hv
  obtain ⟨mh, own, n', news, F', N, _⟩ := id S'
  exact get_own F' O.X I p1 p2 p3 p4 hu (handed ru hb) (k _ _ h' _ σ' ru S' q)

noncomputable def SetOk (K : Frag) (C : Addr) (name : PySem.Str) : Prop := findIn K (Value.ref C) (Str.ofString "__setattr__") = some (some (Value.builtin "object.__setattr__")) ∧ plainOver K C = true ∧ takerIn K C name = some none ∧ hasDictIn K C = true
theorem ex_assign_attr {o : PySem.Expr} {name : PySem.Str} {pos' : Pos} {value : PySem.Expr} {pos : Pos} {Q : Fl → Store → Loc → Prop} (O : F.Ok K)
    (h : Ev prog w F σ m value fun v σ₁ => Ev prog w F σ₁ m o fun ov σ₂ => ∃ x C dx l, ov = .ref x ∧ σ₂ x = some (.inst C dx) ∧ σ₂ dx = some (.idict l) ∧ l.length < 1000 ∧ SetOk K C name ∧ Q .next (upd σ₂ dx (.idict (put name v l))) m)
    (hs : swapsWith value (some (.Attribute o name pos')) pos.line F.env = pure false := by rfl) : Ex1 prog w F σ m (.Assign [.Attribute o name pos'] value pos) Q := by
  intro fr s Q' E S k
  refine plainObj_wpAny_Assign_Attribute (h fr s _ E S fun v a h' tk σ' r S' q => q fr _ _ E S' fun v' a' h' tk σ' r' S' q => ?_) hs
  obtain ⟨x, C, dx, l, rfl, hx, hd, hz, ⟨p1, p2, p3, p4⟩, q⟩ := q
  cases r'
  obtain ⟨es, n, rs, I⟩ := S'.instAt hx hd
  obtain ⟨mh, own, n', c⟩ := S'
  obtain ⟨ro, rest, F', N, r₂, hne, hold, close⟩ := c.open hd
  have e : ro = dictOf es n := by
    have h1 := (N _ (.head _)).1
    have h2 := I.dict
    simp only at h1 h2
    rw [h1] at h2; cases h2; rfl
  subst e
  refine set_dict F' O.X N I rfl p1 p2 p3 p4 ?_ rfl (.head hne) ?_ (fun h₂ F₂ N₂ => ?_)
  · cases q : get name l with
    | none => rw [(rs.getL name).2 q]; rfl
    | some v => obtain ⟨u, hu, _⟩ := (rs.getL name).1 _ q; rw [hu]; rfl
  · rw [(ERs.putL (w := w) name _ r rs).length]
    have : ∀ l : Loc, (put name a l).length ≤ l.length + 1 := by
      intro l
      induction l with
      | nil => simp [put]
      | cons p l ih =>
        obtain ⟨y, u⟩ := p
        unfold put
        split
        · simp
        · simpa using ih
    have := this l
    (first | lia | omega)
  · exact k _ _ h₂ _ _ _ .next ⟨mh, own, n', close h₂ (.idict (put name a l)) _ F₂ N₂ (OR.idict _ (ERs.putL name _ r rs))⟩ q

/-! a class called: an instance is made, and its __init__ run -/
structure ClsOk (K : Frag) (C fI : Addr) : Prop where
  makes : makesIn K C = true
  init : findIn K (Value.ref C) (Str.ofString "__init__") = some (some (Value.ref fI))
  fn : isFn K (Value.ref fI) = true

noncomputable def CodeF (prog : Program) (w : World) (F : Fm) (σ : Store) (m : Loc) (f : Addr) (as : List AV) (Q : AV → Store → Prop) : Prop :=
  ∀ (vs : List Value), VRs as vs → ∀ (fr : List (Addr × Obj)) (s : Shared) (R : Result → Shared → Prop), St prog w F fr σ m s.heap → (∀ x y h' tk σ', VR y x → St prog w F fr σ' m h' → Q y σ' → R (.ok (.ret x)) { s with heap := h', toks := tk }) → codeAny (model prog w) F.C.A (.call (.ref f) ⟨vs, []⟩) R s
theorem CodeF.call {f : Addr} {as : List AV} {Q : AV → Store → Prop} (h : CodeF prog w F σ m f as Q) : CallF prog w F σ m f as Q :=
  fun vs rs fr s Q' E S k => wpAny_call (h vs rs fr s _ S fun x y h' tk σ' r S' q => k x y h' tk σ' r S' q)

/-- the same frame, within a class's making -/
noncomputable abbrev Fm.under (F : Fm) (c : Code) : Fm := ⟨{ F.C with A := F.C.A.under c, d := F.C.d - 1 }, F.env, F.NR⟩
theorem Fm.Ok.under {rest : List Value} {C : Addr} (O : F.Ok K) (hd : 1 ≤ F.C.d) : (F.under (Code.builtin "type.__call__" { pos := .ref C :: rest })).Ok K where
  B := O.B
  X := O.X
  T := O.T
  hh := O.hh
  hf := O.hf
  hL := O.hL
  hke := O.hke
  hd := by
    have := O.hd
    show F.C.A.depth + (Code.builtin "type.__call__" { pos := .ref C :: rest }).weight + 2 * (F.C.d - 1) < recursionLimit
    have : (Code.builtin "type.__call__" { pos := .ref C :: rest }).weight ≤ 2 := by
      have e : (Code.builtin "type.__call__" { pos := .ref C :: rest }).weight = 1 := by kernel_rfl
      (first | lia | omega)
    (first | lia | omega)
  hu := by
    have := O.hu
    show F.C.A.units + (Code.builtin "type.__call__" { pos := .ref C :: rest }).cUnits + 20 * (F.C.d - 1) + 20 < cLine
    have : (Code.builtin "type.__call__" { pos := .ref C :: rest }).cUnits ≤ 10 := by
      have e : (Code.builtin "type.__call__" { pos := .ref C :: rest }).cUnits = 1 := by kernel_rfl
      (first | lia | omega)
    (first | lia | omega)
  gl := O.gl
  bl := O.bl
  ek := O.ek
  mono := O.mono

theorem b_class {C fI : Addr} {as : List AV} {Q : AV → Store → Prop} (O : F.Ok K) (ok : ClsOk K C fI)
    (h : ∀ (rest : List Value) (x dx : Addr), x ≠ dx → σ dx = none → σ x = none → CodeF prog w (F.under (Code.builtin "type.__call__" { pos := .ref C :: rest })) (upd (upd σ dx (.idict [])) x (.inst C dx)) m fI (.ref x :: as) fun v σ' => v = .none ∧ Q (.ref x) σ') : CallF prog w F σ m C as Q := by
  intro vs rs fr s Q' E S k
  refine wpAny_call ?_
  obtain ⟨hh, g, d, t, os⟩ := s
  obtain ⟨mh, own, n, news, F', N, _⟩ := id S
  have X : K.In hh := O.X.keeps F'.keep
  have hf : typeIn K (Value.ref fI) = some (Value.type "function") := by have := ok.fn; unfold isFn at this; simpa using this
  refine make_core (makes_of X ok.makes) (looks_findIn X ok.init) (fun self => bind_fn X self hf) (.inl rfl) ?_
  obtain ⟨f1, S₁⟩ := S.alloc (o := .idict []) (ro := emptyDict) (OR.idict 0 .nil) rfl
  obtain ⟨f2, S₂⟩ := S₁.alloc (o := .inst C hh.objs.size) (ro := instObj C hh.objs.size) (OR.inst _ _) rfl
  have e : (hh.push emptyDict).objs.size = hh.objs.size + 1 := Heap.size_push ..
  rw [e] at f2 S₂
  refine h vs (hh.objs.size + 1) hh.objs.size (Nat.succ_ne_self _) f1 ?_ (.ref _ :: vs) (.cons (.ref _) rs) fr ⟨_, g, d, t, os⟩ _ S₂ fun x y h' tk σ' r S' q => ?_
  · unfold upd at f2
    rw [if_neg (Nat.succ_ne_self _)] at f2
    exact f2
  · obtain ⟨rfl, q⟩ := q
    cases r
    exact ⟨rfl, k _ _ _ _ _ (.ref _) S' q⟩

/-! a function as an instance's method -/
structure MOk (K : Frag) (C : Addr) (name : PySem.Str) (f : Addr) : Prop where
  plain : plainGet K C name = true
  find : findIn K (Value.ref C) name = some (some (Value.ref f))
  fn : isFn K (Value.ref f) = true
  keep : keepIn K (.ref f) = true
theorem ev_methI {o : PySem.Expr} {name : PySem.Str} {apos pos : Pos} {e : PySem.Expr} {rest : List PySem.Expr} {pl : Sem Bool} {Q : AV → Store → Prop} (O : F.Ok K)
    (h : Ev prog w F σ m o fun ov σ₁ => ∃ x C dx l f, ov = .ref x ∧ σ₁ x = some (.inst C dx) ∧ σ₁ dx = some (.idict l) ∧ get name l = none ∧ MOk K C name f ∧ EvL prog w F σ₁ m (e :: rest) fun as σ₂ => CallF prog w F σ₂ m f (ov :: as) Q)
    (h1 : eval ((o.Attribute name apos).Call (e :: rest) [] pos) F.env = (do
          let ov ← eval o F.env
          standAt apos.atName
          let __x ← holding [ov] (getMethod ov name pl)
          match __x with
            | (f, first) => callWith pos f first (backTo pos (starEach (e :: rest) F.env)) []) := by rfl)
    (h2 : starEach (e :: rest) F.env = (false, eval e F.env) :: starEach rest F.env := by rfl) (h3 : ((backTo pos (starEach rest F.env)).any fun x => x.fst) = false := by rfl) : Ev prog w F σ m ((o.Attribute name apos).Call (e :: rest) [] pos) Q := by
  intro fr s Q' E S k
  refine MethodCall_ (h fr s _ E S fun v a h' tk σ' r S' q => ?_) h1
  obtain ⟨x, C, dx, l, f, rfl, hx, hd, hn, ⟨p1, p2, p3, p4⟩, q⟩ := q
  cases r
  obtain ⟨es, n, rs, I⟩ := S'.instAt hx hd
  obtain ⟨mh, own, n', news, F', N, _⟩ := id S'
  refine method_inst F' O.X I p1 p2 p3 ((rs.getL name).2 hn) ?_
  refine callWith_K O.X p4 (q pos fr _ _ E S' fun vs as h₂ tk₂ σ₂ r₂ S₂ q₂ => ⟨?_, q₂ (.ref x :: vs) (.cons (.ref x) r₂) fr _ _ E S₂ fun x y h₃ tk₃ σ₃ r₃ S₃ q₃ => k _ _ _ _ _ r₃ S₃ q₃⟩) h2 h3
  obtain ⟨mh, own, n, news, F', N, _⟩ := id S₂
  exact O.X.keeps F'.keep

/-! isinstance, against a class of the program -/
theorem b_isi_inst {x C C' dx : Addr} {l : List (PySem.Str × AV)} {Q : AV → Store → Prop} (O : F.Ok K) (hx : σ x = some (.inst C dx)) (hd : σ dx = some (.idict l)) (hi : isIn K (.ref C) C' = true) (h : Q (.bool true) σ) : CallB prog w F σ m "isinstance" [.ref x, .ref C'] Q := by
  intro vs r₀ fr s Q' E S k
  obtain ⟨u, v, rfl, ru, rv⟩ := two_args r₀
  cases ru; cases rv
  obtain ⟨es, n, rs, I⟩ := S.instAt hx hd
  obtain ⟨mh, own, n', news, F', N, _⟩ := id S
  exact isi_call (O.X.keeps F'.keep) (fun M => W.InstAt.type I) hi (by intro e; cases e) (k _ _ s.heap s.toks σ (.bool true) S h)
theorem b_isi_tup {x C' : Addr} {l : List AV} {Q : AV → Store → Prop} (O : F.Ok K) (hx : σ x = some (.tup l)) (hi : isNotIn K "tuple" C' = true) (h : Q (.bool false) σ) : CallB prog w F σ m "isinstance" [.ref x, .ref C'] Q := by
  intro vs r₀ fr s Q' E S k
  obtain ⟨u, v, rfl, ru, rv⟩ := two_args r₀
  cases ru; cases rv
  obtain ⟨ro, hg, r⟩ := S.at hx
  obtain ⟨mh, own, n', news, F', N, _⟩ := id S
  cases r with
  | tup n rs =>
    refine isn_call (T := "tuple") (P := fun h => ∃ o, h.get? x = some o ∧ o.cls = .type "tuple") (O.X.keeps F'.keep) (fun M => (Looks.ld hg).andThen .now) hi (by intro e; cases e) ⟨_, hg, rfl⟩ (fun p q => tuple_cls p q) (k _ _ s.heap _ σ (.bool false) S h)

end Mine
namespace Mine
variable {prog : Program} {w : World} {K : Frag} {F : Fm} {σ : Store} {m : Loc}

/-! iterators: hidden objects -/
theorem St.endIt {fr : List (Addr × Obj)} {it : Addr} {o : Obj} {h h' : Heap} {vs : Array Value} (O : F.Ok K) (S : St prog w F ((it, o) :: fr) σ m h) (hd : o.data = .fields vs) (hn : ∀ p ∈ fr, p.1 ≠ it) (hs : Heap.ExtBut it h h') : St prog w F fr σ m h' := by
  obtain ⟨mh, own, n, news, F', N, h2, h3, hb, h4⟩ := S
  have hit := h2 (it, o) (by simp)
  have nit := N _ hit.1
  have hown : ∀ p ∈ own, p.1 ≠ it := fun p hp => n.2 p hp (it, o) (.head _)
  refine ⟨mh, own, ⟨n.1, fun p hp q hq => n.2 p hp q (.tail _ hq)⟩, news.filter (fun p => p.1 != it), ⟨F'.ns.extBut hs nit.2.1.symm, fun b x e => hs b x (fun q => by rw [q, nit.2.2] at e; cases e) (F'.keep b x e), F'.above⟩, fun p hp => ?_, fun p hp => ?_, fun a o' e => ?_, hb, h4⟩
  · obtain ⟨hp, hne⟩ := List.mem_filter.mp hp
    exact ⟨hs _ _ (by simpa using hne) (N p hp).1, (N p hp).2⟩
  · have hne : p.1 ≠ it := by
      rcases List.mem_append.mp hp with q | q
      · exact hown p q
      · exact hn p q
    have hm : p ∈ own ++ (it, o) :: fr := by
      rcases List.mem_append.mp hp with q | q
      · exact List.mem_append_left _ q
      · exact List.mem_append_right _ (.tail _ q)
    exact ⟨List.mem_filter.mpr ⟨(h2 p hm).1, by simpa using hne⟩, (h2 p hm).2⟩
  · obtain ⟨ro, hm, r⟩ := h3 a o' e
    have hne : a ≠ it := fun q => by rw [q, hit.2] at e; cases e
    exact ⟨ro, List.mem_filter.mpr ⟨hm, by simpa using hne⟩, r⟩
theorem St.turnIt {fr : List (Addr × Obj)} {it : Addr} {o o' : Obj} {h h' : Heap} {vs : Array Value} (O : F.Ok K) (S : St prog w F ((it, o) :: fr) σ m h) (hd : o.data = .fields vs) (hn : ∀ p ∈ fr, p.1 ≠ it) (hs : Heap.SameBut it h h') (hg : h'.get? it = some o') : St prog w F ((it, o') :: fr) σ m h' := by
  obtain ⟨mh, own, n, c⟩ := S
  have hown : ∀ p ∈ own, p.1 ≠ it := fun p hp => n.2 p hp (it, o) (.head _)
  refine ⟨mh, own, ⟨n.1, fun p hp q hq => ?_⟩, Co.updFr (fr₁ := own) (fr₂ := fr) c (fun p hp => ?_) hs hg⟩
  · rcases List.mem_cons.mp hq with rfl | hq
    · exact hown p hp
    · exact n.2 p hp q (.tail _ hq)
  rcases List.mem_append.mp hp with q | q
  · exact hown p q
  · exact hn p q
theorem St.extNew {fr : List (Addr × Obj)} {h h' : Heap} (S : St prog w F fr σ m h) (hs : Heap.ExtBut h.objs.size h h') : St prog w F fr σ m h' := by
  obtain ⟨mh, own, n, news, F', N, h2, h3, hb, h4⟩ := S
  exact ⟨mh, own, n, news, F'.extBut hs (Nat.le_refl _), N.extBut hs (Nat.le_refl _), h2, h3, hb, h4⟩

inductive Src (σ : Store) : Addr → List AV → Prop
  | list {l xs} : σ l = some (.list xs) → Src σ l xs
  | tup {l xs} : σ l = some (.tup xs) → Src σ l xs
  | rng {l} {n : Int} : σ l = some (.rng 0 n) → 0 ≤ n → n ≤ 1000000000 → Src σ l ((List.range n.toNat).map fun (i : Nat) => AV.int (i : Int))
inductive ItS (σ : Store) (l : Addr) : List AV → Nat → Obj → Prop
  | list {xs i o} : σ l = some (.list xs) → o.cls = .type "list_iterator" → o.data = .fields #[.ref l, .int (i : Nat) 0] → ItS σ l xs i o
  | tup {xs i o} : σ l = some (.tup xs) → o.cls = .type "tuple_iterator" → o.data = .fields #[.ref l, .int (i : Nat) 0] → ItS σ l xs i o
  | rng {n : Int} {i : Nat} : 0 ≤ n → ItS σ l ((List.range n.toNat).map fun (i : Nat) => AV.int (i : Int)) i { cls := Value.type "range_iterator", data := Data.fields #[rawInt i, rawInt (n - i), rawInt 1] }
theorem ItS.data {l : Addr} {xs : List AV} {i : Nat} {o : Obj} (h : ItS σ l xs i o) : ∃ vs, o.data = .fields vs := by
  cases h with
  | list _ _ h => exact ⟨_, h⟩
  | tup _ _ h => exact ⟨_, h⟩
  | rng => exact ⟨_, rfl⟩
theorem ItS.keep {σ' : Store} {l : Addr} {xs : List AV} {i : Nat} {o : Obj} (h : ItS σ l xs i o) (e : σ' l = σ l) : ItS σ' l xs i o := by
  cases h with
  | list a b c => exact .list (e.trans a) b c
  | tup a b c => exact .tup (e.trans a) b c
  | rng a => exact .rng a

theorem it_make {A : Around} {l : Addr} {xs : List AV} {fr : List (Addr × Obj)} {s : Shared} {Q : Value → Shared → Prop} {E : Value → Shared → Prop} (S : St prog w F fr σ m s.heap) (src : Src σ l xs)
    (h : ∀ it o h', (∀ p ∈ fr, p.1 ≠ it) → ItS σ l xs 0 o → St prog w F ((it, o) :: fr) σ m h' → Q (.ref it) { s with heap := h' }) : wpAny (model prog w) A (pyIter (.ref l)) Q E s := by
  have hfr : ∀ p ∈ fr, p.1 ≠ s.heap.objs.size := fun p hp => Nat.ne_of_lt (Heap.lt_size (S.frAt hp))
  cases src with
  | list hl =>
    obtain ⟨vs, r, hL⟩ := S.isList hl
    exact wpAny_pyIter_list hL (h _ _ _ hfr (.list hl rfl rfl) (S.hide rfl))
  | tup hl =>
    obtain ⟨vs, r, hL⟩ := S.isTup hl
    exact wpAny_pyIter_tuple hL (h _ _ _ hfr (.tup hl rfl rfl) (S.hide rfl))
  | @rng n hl h0 h1 =>
    obtain ⟨ro, hg, r⟩ := S.at hl
    cases r with
    | rng _ _ t u v =>
      refine wpAny_pyIter_range hg (small_one (by decide) (by decide) (by (first | lia | omega)) (by (first | lia | omega))) ?_
      rw [rangeSize_nat]
      refine h _ _ _ hfr ?_ (S.hide rfl)
      have := ItS.rng (σ := σ) (l := l) (n := n) (i := 0) h0
      have e : ((n - 0).toNat : Int) = n - ((0 : Nat) : Int) := by (first | lia | omega)
      rw [e]
      exact this
theorem it_next {A : Around} {l it : Addr} {xs : List AV} {i : Nat} {o : Obj} {x : AV} {fr : List (Addr × Obj)} {s : Shared} {Q : Option Value → Shared → Prop} {E : Value → Shared → Prop} (O : F.Ok K) (S : St prog w F ((it, o) :: fr) σ m s.heap) (I : ItS σ l xs i o) (hn : ∀ p ∈ fr, p.1 ≠ it) (hx : xs[i]? = some x)
    (h : ∀ u o' h' tk, VR x u → ItS σ l xs (i + 1) o' → St prog w F ((it, o') :: fr) σ m h' → Q (some u) { s with heap := h', toks := tk }) : wpAny (model prog w) A (pyNext (.ref it)) Q E s := by
  have hg := S.frAt (p := (it, o)) (.head _)
  cases I with
  | list hl h1 h2 =>
    obtain ⟨vs, r, hL⟩ := S.isList hl
    obtain ⟨y, hy, ry⟩ := r.get hx
    refine wpAny_pyNext_list_item ⟨_, hg, h1, h2⟩ hL (by simpa using hy) fun h' ⟨o', g1, g2, g3⟩ hs => ?_
    exact h y o' h' s.toks ry (.list hl g2 g3) (S.turnIt O h2 hn hs g1)
  | tup hl h1 h2 =>
    obtain ⟨vs, r, hL⟩ := S.isTup hl
    obtain ⟨y, hy, ry⟩ := r.get hx
    refine wpAny_pyNext_tuple_item ⟨_, hg, h1, h2⟩ hL (by simpa using hy) fun h' ⟨o', g1, g2, g3⟩ hs => ?_
    exact h y o' h' s.toks ry (.tup hl g2 g3) (S.turnIt O h2 hn hs g1)
  | @rng n _ h0 =>
    have hlt : i < n.toNat := by
      have := (List.getElem?_eq_some_iff.mp hx).1
      simpa using this
    refine wpAny_pyNext_range_item hg (by (first | lia | omega)) fun h' g1 hs => ?_
    have e : x = .int (i : Int) := by
      rw [List.getElem?_map, List.getElem?_range hlt] at hx
      cases hx; rfl
    subst e
    refine h _ _ h' _ (.int _ _) ?_ (S.turnIt O rfl hn hs g1)
    have := ItS.rng (σ := σ) (l := l) (n := n) (i := i + 1) h0
    have e1 : (i : Int) + 1 = ((i + 1 : Nat) : Int) := by (first | lia | omega)
    have e2 : n - (i : Int) - 1 = n - ((i + 1 : Nat) : Int) := by (first | lia | omega)
    rw [e1, e2]; exact this
theorem it_end {A : Around} {l it : Addr} {xs : List AV} {i : Nat} {o : Obj} {fr : List (Addr × Obj)} {s : Shared} {Q : Option Value → Shared → Prop} {E : Value → Shared → Prop} (O : F.Ok K) (hh : A.handled = none) (S : St prog w F ((it, o) :: fr) σ m s.heap) (I : ItS σ l xs i o) (hn : ∀ p ∈ fr, p.1 ≠ it) (hx : xs[i]? = none)
    (h : ∀ h', St prog w F fr σ m h' → Q none { s with heap := h' }) : wpAny (model prog w) A (pyNext (.ref it)) Q E s := by
  have hg := S.frAt (p := (it, o)) (.head _)
  cases I with
  | list hl h1 h2 =>
    obtain ⟨vs, r, hL⟩ := S.isList hl
    refine wpAny_pyNext_list_end hh ⟨_, hg, h1, h2⟩ hL ?_ fun h' hs => h h' (S.endIt O h2 hn hs)
    have : xs.length ≤ i := by simpa using hx
    have e := r.length
    simp; (first | lia | omega)
  | tup hl h1 h2 =>
    obtain ⟨vs, r, hL⟩ := S.isTup hl
    refine wpAny_pyNext_tuple_end hh ⟨_, hg, h1, h2⟩ hL ?_ fun h' hs => h h' (S.endIt O h2 hn hs)
    have : xs.length ≤ i := by simpa using hx
    have e := r.length
    simp; (first | lia | omega)
  | @rng n _ h0 =>
    have hlt : n.toNat ≤ i := by simpa using hx
    exact wpAny_pyNext_range_end hh hg (by (first | lia | omega)) fun h' hs => h h' (S.endIt O rfl hn hs)

theorem owned_no (n : String) (hn : ["enumerate", "zip", "dict_itemiterator", "dict_reverseitemiterator", "odict_iterator", "itertools.zip_longest", "itertools.pairwise"].contains n = false) {A : Around} {E : Value → Shared → Prop} {s : Shared} {it : Addr} {o : Obj} {vs : Array Value} (hg : s.heap.get? it = some o) (hc : o.cls = .type n) (hd : o.data = .fields vs) (target : PySem.Expr) (v : Value) {Q : Unit → Shared → Prop} (h : Q () s) :
    wpAny (model prog w) A (letOwnedTupleGo target (.ref it) v) Q E s := by
  unfold letOwnedTupleGo
  have key : ∀ a : Addr, wpAny (model prog w) A (do
      let o ← load it
      match o.cls, o.data with
      | .type n, .fields vs =>
        if ["enumerate", "zip", "dict_itemiterator", "dict_reverseitemiterator", "odict_iterator", "itertools.zip_longest", "itertools.pairwise"].contains n && vs[0]? == some (rawInt a) then
          rule "for.unpacks-the-owned-tuple"
          updateField it 0 .none
      | _, _ => pure ()) Q E s := by
    intro a
    refine wpAny_bind (wpAny_load hg ?_)
    rw [hc, hd]
    show wpAny _ A (if (["enumerate", "zip", "dict_itemiterator", "dict_reverseitemiterator", "odict_iterator", "itertools.zip_longest", "itertools.pairwise"].contains n && vs[0]? == some (rawInt a)) = true then _ else _) Q E s
    rw [hn, Bool.false_and, if_neg (by simp)]
    exact wpAny_pure h
  cases target <;> first | exact wpAny_pure h | (cases v <;> first | exact wpAny_pure h | exact key _)
theorem it_owned {A : Around} {l it : Addr} {xs : List AV} {i : Nat} {o : Obj} {fr : List (Addr × Obj)} {s : Shared} {E : Value → Shared → Prop} (S : St prog w F ((it, o) :: fr) σ m s.heap) (I : ItS σ l xs i o) (target : PySem.Expr) (v : Value) {Q : Unit → Shared → Prop} (h : Q () s) :
    wpAny (model prog w) A (letOwnedTupleGo target (.ref it) v) Q E s := by
  have hg := S.frAt (p := (it, o)) (.head _)
  cases I with
  | list _ h1 h2 => exact owned_no "list_iterator" (by decide) hg h1 h2 target v h
  | tup _ h1 h2 => exact owned_no "tuple_iterator" (by decide) hg h1 h2 target v h
  | rng _ => exact owned_no "range_iterator" (by decide) hg rfl rfl target v h
theorem it_self {A : Around} {l it : Addr} {xs : List AV} {i : Nat} {o : Obj} {fr : List (Addr × Obj)} {s : Shared} {E : Value → Shared → Prop} (S : St prog w F ((it, o) :: fr) σ m s.heap) (I : ItS σ l xs i o) {Q : Value → Shared → Prop} (h : Q (.ref it) s) :
    wpAny (model prog w) A (pyIter (.ref it)) Q E s := by
  have hg := S.frAt (p := (it, o)) (.head _)
  cases I with
  | list _ h1 h2 => exact wpAny_pyIter_listiter ⟨o, hg, h1, h2⟩ h
  | tup _ h1 h2 => exact wpAny_pyIter_tupleiter ⟨o, hg, h1, h2⟩ h
  | rng _ => exact wpAny_pyIter_rangeiter hg h

/-! targets -/
noncomputable def Asg (prog : Program) (w : World) (F : Fm) (σ : Store) (m : Loc) (target : PySem.Expr) (x : AV) (Q : Loc → Prop) : Prop :=
  ∀ (u : Value), VR x u → ∀ (fr : List (Addr × Obj)) (s : Shared) (Q' : Unit → Shared → Prop) (E : Value → Shared → Prop), St prog w F fr σ m s.heap →
    (∀ h' tk m', St prog w F fr σ m' h' → Q m' → Q' () { s with heap := h', toks := tk }) → wpAny (model prog w) F.C.A (assign target F.env u) Q' E s
theorem asg_name {c : Fn} {sc : Scope} {cl : Option (PySem.Str × Addr)} {x : PySem.Str} {pos : Pos} {v : AV} {Q : Loc → Prop} (h : Q (put x v m))
    (hl : sc.names.lookup x = some .local := by rfl) (hc : (cl.all fun p => !(decide (x = p.1))) = true := by rfl) (hk : sc.kind = .function := by rfl) : Asg prog w (c.fm sc cl) σ m (.Name x pos) v Q :=
  fun u r fr s Q' E S k => wpAny_assign_Name (store_local r S (fun h₂ tk₂ S₂ => k _ _ _ S₂ h) hl hc hk)
noncomputable def AsgL (prog : Program) (w : World) (F : Fm) (σ : Store) (m : Loc) (ts : List PySem.Expr) (xs : List AV) (Q : Loc → Prop) : Prop :=
  ∀ (us : List Value), VRs xs us → ∀ (fr : List (Addr × Obj)) (s : Shared) (Q' : Unit → Shared → Prop) (E : Value → Shared → Prop), St prog w F fr σ m s.heap →
    (∀ h' tk m', St prog w F fr σ m' h' → Q m' → Q' () { s with heap := h', toks := tk }) → wpAny (model prog w) F.C.A (assignInOrder ((assignEach ts F.env).map (·.2)) us) Q' E s
theorem asgl_nil {Q : Loc → Prop} (h : Q m) : AsgL prog w F σ m [] [] Q := by
  intro us r fr s Q' E S k
  cases r
  exact wpAny_assignInOrder_none (k s.heap s.toks m S h)
theorem asgl_cons {t : PySem.Expr} {ts : List PySem.Expr} {x : AV} {xs : List AV} {Q : Loc → Prop} (h : Asg prog w F σ m t x fun m₁ => AsgL prog w F σ m₁ ts xs Q) (he : assignEach (t :: ts) F.env = (false, assign t F.env) :: assignEach ts F.env := by rfl) : AsgL prog w F σ m (t :: ts) (x :: xs) Q := by
  intro us r fr s Q' E S k
  cases r with
  | cons r rs =>
    rw [he]
    exact wpAny_assignInOrder_more (h _ r fr s _ E S fun h' tk m' S' q => q _ rs fr _ _ E S' fun h₂ tk₂ m₂ S₂ q₂ => k _ _ _ S₂ q₂)
theorem asg_tuple {elts : List PySem.Expr} {k₁ : Nat} {pos : Pos} {t : Addr} {xs : List AV} {Q : Loc → Prop} (O : F.Ok K) (ht : σ t = some (.tup xs)) (h : AsgL prog w F σ m elts xs Q) (hlen : (assignEach elts F.env).length = xs.length := by rfl) (hst : (assignEach elts F.env).findIdx? (·.1) = none := by rfl) :
    Asg prog w F σ m (.Tuple elts k₁ pos) (.ref t) Q := by
  intro u r fr s Q' E S k
  cases r
  obtain ⟨vs, rs, hT⟩ := S.isTup ht
  exact wpAny_assign_Tuple O.hh hT (by rw [hlen, List.size_toArray, rs.length]) hst fun h' hs => h vs rs fr _ _ E (S.extNew hs) fun h₂ tk₂ m₂ S₂ q₂ => k _ _ _ S₂ q₂

/-! for -/
noncomputable def ForP (prog : Program) (w : World) (F : Fm) (target : PySem.Expr) (body : List Stmt) (l : Addr) (o₀ : Option AO) (Q : Fl → Store → Loc → Prop) : List AV → Store → Loc → Prop
  | [], σ, m => σ l = o₀ ∧ Q .next σ m
  | x :: xs, σ, m => σ l = o₀ ∧ Asg prog w F σ m target x fun m₁ => Ex prog w F σ m₁ body fun fl σ₂ m₂ => match fl with
    | .brk => Q .next σ₂ m₂
    | .ret v => Q (.ret v) σ₂ m₂
    | _ => ForP prog w F target body l o₀ Q xs σ₂ m₂
theorem ForP.at {target : PySem.Expr} {body : List Stmt} {l : Addr} {o₀ : Option AO} {Q : Fl → Store → Loc → Prop} : ∀ {xs : List AV}, ForP prog w F target body l o₀ Q xs σ m → σ l = o₀
  | [], h => h.1
  | _ :: _, h => h.1
theorem ex_for {target iter : PySem.Expr} {body : List Stmt} {pos : Pos} {Q : Fl → Store → Loc → Prop} (O : F.Ok K)
    (h : Ev prog w F σ m iter fun v σ₁ => ∃ l xs, v = .ref l ∧ Src σ₁ l xs ∧ ForP prog w F target body l (σ₁ l) Q xs σ₁ m)
    (hf : ∀ x, foldedSetIterable iter F.env x = pure x := by intro _; rfl) : Ex1 prog w F σ m (.For target iter body [] pos) Q := by
  intro fr s Q' E S k
  refine wpAny_For (h fr s _ E S fun v a h' tk σ₁ r S' q => ?_) hf
  obtain ⟨l, xs, rfl, src, q⟩ := q
  cases r
  refine it_make S' src fun it o h₁ hn I S₁ => ?_
  refine codeAny_forLoop_any (fun n s₂ => ∃ i σ₂ m₂ o₂ tk₂ h₂, s₂ = { s with heap := h₂, toks := tk₂ } ∧ n = xs.length - i ∧ i ≤ xs.length ∧ ItS σ₂ l xs i o₂ ∧ St prog w F ((it, o₂) :: fr) σ₂ m₂ h₂ ∧ ForP prog w F target body l (σ₁ l) Q (xs.drop i) σ₂ m₂) ?_ (xs.length - 0) ⟨0, σ₁, m, o, tk, h₁, rfl, rfl, Nat.zero_le _, I, S₁, by rw [List.drop_zero]; exact q⟩
  rintro n _ ⟨i, σ₂, m₂, o₂, tk₂, h₂, rfl, rfl, hi, I₂, S₂, q₂⟩
  by_cases hlt : i < xs.length
  · have hx : xs[i]? = some xs[i] := List.getElem?_eq_getElem hlt
    rw [List.drop_eq_getElem_cons hlt] at q₂
    obtain ⟨q0, q₂⟩ := q₂
    refine it_next O S₂ I₂ hn hx fun u o₃ h₃ tk₃ ru I₃ S₃ => ?_
    refine it_owned S₃ I₃ target u ?_
    refine q₂ u ru ((it, o₃) :: fr) _ _ _ S₃ fun h₄ tk₄ m₄ S₄ q₄ => ?_
    refine q₄ ((it, o₃) :: fr) _ _ _ S₄ fun y fl h₅ tk₅ σ₅ m₅ rf S₅ q₅ => ?_
    have hless : St prog w F fr σ₅ m₅ h₅ := S₅.less fun p hp => .tail _ hp
    cases rf with
    | next =>
      exact ⟨xs.length - (i + 1), by (first | lia | omega), i + 1, σ₅, m₅, o₃, tk₅, h₅, rfl, rfl, hlt, I₃.keep (by rw [ForP.at q₅, q0]), S₅, q₅⟩
    | cont =>
      exact ⟨xs.length - (i + 1), by (first | lia | omega), i + 1, σ₅, m₅, o₃, tk₅, h₅, rfl, rfl, hlt, I₃.keep (by rw [ForP.at q₅, q0]), S₅, q₅⟩
    | brk => exact k _ _ _ _ _ _ .next hless q₅
    | ret rv => exact k _ _ _ _ _ _ (.ret rv) hless q₅
  · have hie : i = xs.length := by (first | lia | omega)
    subst hie
    rw [List.drop_length] at q₂
    refine it_end O O.hh S₂ I₂ hn (by simp) fun h₃ S₃ => ?_
    exact wpAny_execs_nil (k _ _ _ _ _ _ .next S₃ q₂.2)
end Mine
namespace Mine
variable {prog : Program} {w : World} {K : Frag} {F : Fm} {σ : Store} {m : Loc}

theorem ev_neg {e : PySem.Expr} {pos : Pos} {Q : AV → Store → Prop} (h : Ev prog w F σ m e fun v σ₁ => ∃ i, v = .int i ∧ Q (.int (-i)) σ₁) : Ev prog w F σ m (.UnaryOp .USub e pos) Q := by
  intro fr s Q' E S k
  refine wpAny_UnaryOp (h fr s _ E S fun x a h' tk σ' r S' q => ?_)
  obtain ⟨i, rfl, q⟩ := q
  cases r
  exact neg_int (k _ _ _ _ _ (.int _ _) S' q)
theorem ev_dict0 {pos : Pos} {Q : AV → Store → Prop} (h : ∀ a, σ a = none → Q (.ref a) (upd σ a (.dict []))) : Ev prog w F σ m (.Dict [] [] pos) Q := by
  intro fr s Q' E S k
  refine wpAny_Dict_empty ?_
  have r : OR prog w (.dict []) { cls := .type "dict", data := .dict #[] } := by
    exact OR.dict (es := #[]) (ep := 0) ⟨rfl, rfl, rfl⟩ rfl (fun _ he => by simp at he) Pairs.nil List.nodup_nil .nil
  obtain ⟨hf, S₂⟩ := S.alloc r rfl
  exact k _ _ _ _ _ (.ref _) S₂ (h _ hf)
theorem ex_aug {c : Fn} {sc : Scope} {cl : Option (PySem.Str × Addr)} {x : PySem.Str} {pos' : Pos} {value : PySem.Expr} {pos : Pos} {i : Int} {Q : Fl → Store → Loc → Prop} (hv : get x m = some (.int i))
    (h : Ev prog w (c.fm sc cl) σ m value fun v σ₁ => ∃ j, v = .int j ∧ Q .next σ₁ (put x (.int (i + j)) m))
    (hl : sc.names.lookup x = some .local := by rfl) (hc : (cl.all fun p => !(decide (x = p.1))) = true := by rfl) (hk : sc.kind = .function := by rfl) : Ex1 prog w (c.fm sc cl) σ m (.AugAssign (.Name x pos') .Add value pos) Q := by
  intro fr s Q' E S k
  obtain ⟨mh, own, n, news, F', N, h2, h3, hb, h4⟩ := id S
  obtain ⟨u, r, hu, _⟩ := NRf.get n.1 hv
  refine wpAny_AugAssign_Name (wpAny_loadName_local (env := frE c.C c.q c.f c.cd sc cl) hk hl F'.ns (hu hc) (h fr _ _ E S fun y a h' tk σ' r' S' q => ?_))
  obtain ⟨j, rfl, q⟩ := q
  cases r; cases r'
  exact iadd_int (store_local (v := .int (i + j)) (.int _ _) S' (fun h₂ tk₂ S₂ => k _ _ _ _ _ _ .next S₂ q) hl hc hk)

theorem ints_of : ∀ {xs : List Int} {vs : List Value}, VRs (xs.map AV.int) vs → IntsAre vs xs
  | [], _, .nil => .nil
  | _ :: _, _, .cons (.int i t) rs => .cons _ _ (ints_of rs)
theorem b_sum {l : Addr} {xs : List Int} {Q : AV → Store → Prop} (O : F.Ok K) (hl : σ l = some (.list (xs.map AV.int))) (h : Q (.int xs.sum) σ) : CallB prog w F σ m "sum" [.ref l] Q := by
  intro vs r₀ fr s Q' E S k
  obtain ⟨u, rfl, ru⟩ := one_arg r₀
  cases ru
  obtain ⟨us, rs, hL⟩ := S.isList hl
  obtain ⟨mh, own, n, news, F', N, h2, h3, hb, h4⟩ := id S
  exact sumK O.hh F' N hL (ints_of rs) fun h' tk t' F₂ N₂ => k _ _ h' tk σ (.int _ _) ⟨mh, own, n, news, F₂, N₂, h2, h3, hb, h4⟩ h
theorem rep1 (v : Value) : ∀ n : Nat, List.foldl (fun x1 x2 => x1 ++ x2) #[] (List.replicate n #[v]) = (List.replicate n v).toArray := by
  intro n
  have : ∀ (n : Nat) (acc : Array Value), List.foldl (fun x1 x2 => x1 ++ x2) acc (List.replicate n #[v]) = acc ++ (List.replicate n v).toArray := by
    intro n
    induction n with
    | zero => intro acc; simp
    | succ n ih => intro acc; rw [List.replicate_succ, List.foldl_cons, ih, List.replicate_succ]; apply Array.toList_inj.mp; simp
  rw [this]; simp
theorem VRs.replicate {a : AV} {v : Value} (r : VR a v) : ∀ n : Nat, VRs (List.replicate n a) (List.replicate n v)
  | 0 => .nil
  | n + 1 => .cons r (VRs.replicate r n)
/-- [x] * n -/
theorem bin_mul_list1 {a : Addr} {x : AV} {n : Nat} {Q : AV → Store → Prop} (ha : σ a = some (.list [x])) (hz : n ≤ small) (h : ∀ c, σ c = none → Q (.ref c) (upd σ c (.list (List.replicate n x)))) : Bin prog w F σ m .Mult (.ref a) (.int n) Q := by
  intro u v ru rv fr s Q' E S k
  cases ru; cases rv
  obtain ⟨ro, hg, r⟩ := S.at ha
  obtain ⟨mh, own, nn, news, F', N, h2, h3, hb, h4⟩ := id S
  cases r with
  | list n' rs =>
    obtain ⟨y, rfl, ry⟩ := one_arg rs
    have hz' : n ≤ 1000 := hz
    refine mul_list F' N hg (by (first | lia | omega)) (by (first | lia | omega)) (by simp only [List.size_toArray, List.length_cons, List.length_nil]; (first | lia | omega)) fun h' F₂ N₂ => ?_
    have e : (if (#[y] : Array Value).isEmpty = true then 0 else ((n : Nat) : Int).toNat) = n := by simp
    rw [show ([y].toArray : Array Value) = #[y] from rfl, e, rep1] at N₂
    obtain ⟨fresh, c⟩ := Co.close F' N h2 h3 hb h4 F₂ N₂ (OR.list (prog := prog) (w := w) 0 (VRs.replicate ry n))
    exact k _ _ h' s.toks _ (.ref _) ⟨mh, own, nn, c⟩ (h _ fresh)

theorem St.push {fr : List (Addr × Obj)} {h : Heap} (S : St prog w F fr σ m h) (o : Obj) : St prog w F fr σ m (h.push o) := S.kept fun _ _ e => Heap.get?_push_of_some _ e
theorem VRs.take : ∀ {l : List AV} {vs : List Value} (k : Nat), VRs l vs → VRs (l.take k) (vs.take k)
  | _, _, 0, _ => by rw [List.take_zero, List.take_zero]; exact .nil
  | _, _, _ + 1, .nil => .nil
  | _, _, k + 1, .cons r rs => .cons r (rs.take k)
/-- l[:k] -/
theorem ev_slice {value up : PySem.Expr} {sp pos : Pos} {Q : AV → Store → Prop} (h : Ev prog w F σ m value fun a σ₁ => Ev prog w F σ₁ m up fun b σ₂ => ∃ l xs k, a = .ref l ∧ b = .int ((k : Nat) : Int) ∧ σ₂ l = some (.list xs) ∧ xs.length ≤ small ∧ ∀ c, σ₂ c = none → Q (.ref c) (upd σ₂ c (.list (xs.take k))))
    (hs : ∀ l o, subscripted (.Slice none (some up) none sp) false (.ref l) (.ref o) = operate [.ref o, .ref l] (getItem (.ref l) (.ref o)) := by intro _ _; with_unfolding_all rfl) :
    Ev prog w F σ m (.Subscript value (.Slice none (some up) none sp) pos) Q := by
  intro fr s Q' E S k'
  refine Subscript_ (h fr s _ E S fun x a h' tk σ' r S' q => wpAny_Slice (wpAny_evalPart_none (wpAny_evalPart_some (q fr _ _ E S' fun y b h₂ tk₂ σ₂ r₂ S₂ q₂ => wpAny_evalPart_none ?_))))
  obtain ⟨l, xs, k, rfl, rfl, hl, hz, q₂⟩ := q₂
  cases r
  obtain ⟨t, rfl⟩ : ∃ t, y = .int (k : Int) t := by cases r₂; exact ⟨_, rfl⟩
  have S₃ := S₂.push { cls := .type "slice", data := .fields #[.none, .int (k : Int) t, .none] }
  obtain ⟨vs', rs', hL'⟩ := S₃.isList hl
  refine tail_any hL'.typeIs slot_list_getitem.lookup (wpAny_getItem_list_slice hL' (Heap.IsSliceOf.new ..) .none (.int _ _) .none (by simp) ?_ (by simp only [List.size_toArray, rs'.length]; exact small_le hz)) (hs _ _)
  rw [slicePick_upto']
  obtain ⟨hf, S₄⟩ := S₃.alloc (OR.list (prog := prog) (w := w) 0 (rs'.take k)) rfl
  exact k' _ _ _ _ _ (.ref _) S₄ (q₂ _ hf)

/-! t[:k] of a tuple -/
section
variable {A : Around} {E : Value → Shared → Prop} {s : Shared}
theorem adjust_upto (k n : Nat) (h : k ≤ n) : Builtin.Slice.sliceAdjust none (some (k : Int)) 1 (n : Int) = (0, (k : Int)) := by
  unfold Builtin.Slice.sliceAdjust
  have h1 : ¬ ((1 : Int) < 0) := by (first | lia | omega)
  have h2 : ¬ ((k : Int) < 0) := by (first | lia | omega)
  simp only [h1, h2, if_false]
  congr 1
  (first | lia | omega)
theorem places_upto (k : Nat) : Builtin.Slice.slicePlaces 0 (k : Int) 1 = k := by
  unfold Builtin.Slice.slicePlaces
  have h1 : (1 : Int) > 0 := by (first | lia | omega)
  simp only [h1, if_true, Int.ediv_one]
  split <;> (first | lia | omega)
theorem applied_upto {sl : Addr} {k n : Nat} {u : Tok} {Q : Int × Int × Nat → Shared → Prop} (hs : s.heap.IsSliceOf sl .none (.int k u) .none) (hk : k ≤ n) (h : Q (0, 1, k) s) :
    wpAny (model prog w) A (Builtin.Slice.sliceApplied (.ref sl) (pure (n : Int))) Q E s := by
  obtain ⟨os, hos, hcs, hds⟩ := id hs
  unfold Builtin.Slice.sliceApplied Builtin.Slice.sliceFields
  refine wpAny_bind (wpAny_bind (wpAny_field hos hds (x := .none) rfl (wpAny_bind (wpAny_field hos hds (x := .int k u) rfl (wpAny_bind (wpAny_field hos hds (x := .none) rfl (wpAny_pure ?_)))))))
  refine wpAny_bind (slicePart_none ?_)
  show wpAny _ _ (if ((1 : Int) == 0) = true then _ else _) _ _ s
  rw [if_neg (by decide)]
  refine wpAny_bind (slicePart_none (wpAny_bind (slicePart_int (wpAny_bind (wpAny_pure ?_)))))
  show wpAny _ _ (match Builtin.Slice.sliceAdjust none (some (k : Int)) 1 (n : Int) with | (lo, hi) => pure (lo, (1 : Int), Builtin.Slice.slicePlaces lo hi 1)) _ _ s
  rw [adjust_upto k n hk]
  show wpAny _ _ (pure ((0 : Int), (1 : Int), Builtin.Slice.slicePlaces 0 (k : Int) 1)) _ _ s
  rw [places_upto k]
  exact wpAny_pure h
theorem pick_upto (xs : Array Value) (k : Nat) : ((List.range k).filterMap fun (j : Nat) => xs[((0 : Int) + (j : Int) * 1).toNat]?).toArray = (xs.toList.take k).toArray := by
  have e : (fun (j : Nat) => xs[((0 : Int) + (j : Int) * 1).toNat]?) = fun j => xs[0 + j]? := by
    funext j
    have : ((0 : Int) + (j : Int) * 1).toNat = 0 + j := by (first | lia | omega)
    rw [this]
  rw [e]
  have := pick_run xs 0 k
  rw [List.filterMap_map] at this
  have e2 : ((fun x => xs[x]?) ∘ fun x => 0 + x) = fun j => xs[0 + j]? := rfl
  rw [e2] at this
  rw [this, List.drop_zero]
theorem getItem_tuple_upto {t sl : Addr} {items : Array Value} {k : Nat} {u : Tok} {Q : Value → Shared → Prop} (ht : IsTup s.heap t items) (hs : s.heap.IsSliceOf sl .none (.int k u) .none) (hk : k < items.size)
    (h : Q (.ref s.heap.objs.size) { s with heap := s.heap.push { cls := .type "tuple", data := .seq (items.toList.take k).toArray } })
    (hsz : items.size ≤ sizeLine) : wpAny (model prog w) A (getItem (.ref t) (.ref sl)) Q E s := by
  have hdrop : sizeOk (.seq (items.toList.take k).toArray) := by
    show (items.toList.take k).toArray.size ≤ sizeLine
    rw [List.size_toArray, List.length_take, Array.length_toList]
    (first | lia | omega)
  obtain ⟨os, hos, hcs, hds⟩ := id hs
  have hTs : s.TypeIs (.ref sl) "slice" := ⟨os, hos, hcs⟩
  unfold getItem
  try with_reducible refine wpAny_holding ?_
  first | refine wpAny_bind (wpAny_pure ?_) | skip
  refine wpAny_bind (wpAny_sequenceKey ht.typeIs (by decide) ?_)
  refine wpAny_bind (wpAny_callSpecial?_slot (name := Str.ofString "__getitem__") ht.typeIs slot_tuple_getitem
    (wpAny_call_entry slot_tuple_getitem ht.typeIs entry_tuple_getitem ?_ (args_tuple_getitem _ _)))
  show wpAny _ _ (Builtin.Tuple.tupleItemsOf (.ref t) >>= _) _ _ s
  refine wpAny_bind (tupleItemsOf_ ht ?_)
  refine wpAny_bind (wpAny_typeOf hTs ?_)
  rw [if_pos (by decide)]
  refine wpAny_bind (applied_upto hs (Nat.le_of_lt hk) ?_)
  have hno : ¬ (((0 : Int) == 0 && (1 : Int) == 1 && k == items.size) = true) := by
    have : (k == items.size) = false := by rw [beq_eq_false_iff_ne]; (first | lia | omega)
    rw [this]; simp
  show wpAny _ _ (if ((0 : Int) == 0 && (1 : Int) == 1 && k == items.size) = true then _ else _) _ _ s
  rw [if_neg hno, pick_upto items k]
  first
    | exact wpAny_bind (m := Builtin.Tuple.tupleExact _) (wpAny_newObj_type (wpAny_pure ⟨_, rfl, wpAny_pure h⟩) hdrop)
    | exact wpAny_bind (m := Builtin.Tuple.tupleExact _) (wpAny_newObj_type (wpAny_bind (wpAny_pure (wpAny_pure ⟨_, rfl, wpAny_pure h⟩))) hdrop)
    | exact wpAny_bind (wpAny_bind (m := Builtin.Tuple.tupleExact _) (wpAny_newObj_type (wpAny_pure (wpAny_pure ⟨_, rfl, wpAny_pure h⟩)) hdrop))
    | exact wpAny_bind (wpAny_bind (m := Builtin.Tuple.tupleExact _) (wpAny_newObj_type (wpAny_pure ⟨_, rfl, wpAny_pure h⟩) hdrop))
end
theorem ev_slice_tup {value up : PySem.Expr} {sp pos : Pos} {Q : AV → Store → Prop} (h : Ev prog w F σ m value fun a σ₁ => Ev prog w F σ₁ m up fun b σ₂ => ∃ l xs k, a = .ref l ∧ b = .int ((k : Nat) : Int) ∧ σ₂ l = some (.tup xs) ∧ k < xs.length ∧ xs.length ≤ small ∧ ∀ c, σ₂ c = none → Q (.ref c) (upd σ₂ c (.tup (xs.take k))))
    (hs : ∀ l o, subscripted (.Slice none (some up) none sp) false (.ref l) (.ref o) = operate [.ref o, .ref l] (getItem (.ref l) (.ref o)) := by intro _ _; with_unfolding_all rfl) :
    Ev prog w F σ m (.Subscript value (.Slice none (some up) none sp) pos) Q := by
  intro fr s Q' E S k'
  refine Subscript_ (h fr s _ E S fun x a h' tk σ' r S' q => wpAny_Slice (wpAny_evalPart_none (wpAny_evalPart_some (q fr _ _ E S' fun y b h₂ tk₂ σ₂ r₂ S₂ q₂ => wpAny_evalPart_none ?_))))
  obtain ⟨l, xs, k, rfl, rfl, hl, hk, hz, q₂⟩ := q₂
  cases r
  obtain ⟨t, rfl⟩ : ∃ t, y = .int (k : Int) t := by cases r₂; exact ⟨_, rfl⟩
  have S₃ := S₂.push { cls := .type "slice", data := .fields #[.none, .int (k : Int) t, .none] }
  obtain ⟨vs', rs', hL'⟩ := S₃.isTup hl
  refine tail_any hL'.typeIs slot_tuple_getitem.lookup (getItem_tuple_upto hL' (Heap.IsSliceOf.new ..) (by simp only [List.size_toArray, rs'.length]; exact hk) ?_ (by simp only [List.size_toArray, rs'.length]; exact small_le hz)) (hs _ _)
  obtain ⟨hf, S₄⟩ := S₃.alloc (OR.tup (prog := prog) (w := w) 0 (rs'.take k)) rfl
  exact k' _ _ _ _ _ (.ref _) S₄ (q₂ _ hf)

/-- a character of a str -/
theorem subq_str {value slice : PySem.Expr} {x : PySem.Str} {k : Int} {c : Nat} {Q : AV → Store → Prop} (h0 : 0 ≤ k) (h1 : k < 2 ^ 63) (hx : x.cps[k.toNat]? = some c) (h : Q (.str ⟨#[c]⟩) σ)
    (hs : ∀ l t k t', subscripted slice false (.str l t) (.int k t') = operate [.str l t, .int k t'] (getItem (.str l t) (.int k t')) := by intro _ _ _ _; with_unfolding_all rfl) : sub2Q prog w F m value slice (.str x) Q (.int k) σ := by
  intro u v ru rv fr s Q' E S k'
  cases ru; cases rv
  refine tail_any (typeIs_str s x _) slot_str_getitem.lookup (getItem_str (c := c) (by simp; (first | lia | omega)) ?_ (k' _ _ s.heap _ σ (.str _ _) S h)) (hs _ _ _ _)
  have hlt : k.toNat < x.length := by
    have := (Array.getElem?_eq_some_iff.mp hx).1
    exact this
  have : seqIndex? k x.length = some k.toNat := by
    unfold seqIndex?
    have : k < (x.length : Int) := by (first | lia | omega)
    simp [this]
    (first | lia | omega)
  rw [this]
  exact hx

end Mine
namespace Mine
variable {prog : Program} {w : World} {K : Frag} {F : Fm} {σ : Store} {m : Loc}

/-! list comprehensions: a block of its own within a frame -/
noncomputable def NRc (scope : Scope) (cl : List (PySem.Str × Addr)) (C : Addr) (mh₀ : PySem.Str → Option Value) (own₀ : List (Addr × Obj)) (mh : PySem.Str → Option Value) (own : List (Addr × Obj)) (m : Loc) : Prop :=
  mh = mh₀ ∧ ∃ oC mC, own = (C, oC) :: own₀ ∧ (∀ p ∈ own₀, p.1 ≠ C) ∧ LCg.NsObj oC mC ∧ ∀ y v, get y m = some v → ∃ u, VR v u ∧
    ((scope.names.lookup y = some .local ∧ mC y = some u) ∨ (scope.names.lookup y = some .free ∧ ∃ c o, cl.lookup y = some c ∧ (c, o) ∈ own₀ ∧ o.data = .cell (some u)))
noncomputable abbrev cfm (F : Fm) (scope : Scope) (cl : List (PySem.Str × Addr)) (C : Addr) (mh₀ : PySem.Str → Option Value) (own₀ : List (Addr × Obj)) : Fm := ⟨F.C, compEnvC scope cl C F.env, NRc scope cl C mh₀ own₀⟩

theorem cfm_ok {scope : Scope} {cl : List (PySem.Str × Addr)} {C : Addr} {mh₀ : PySem.Str → Option Value} {own₀ : List (Addr × Obj)} (O : F.Ok K) (hk : scope.kind = .function) : (cfm F scope cl C mh₀ own₀).Ok K where
  B := O.B
  X := O.X
  T := O.T
  hh := O.hh
  hf := O.hf
  hL := O.hL
  hke := O.hke
  hd := O.hd
  hu := O.hu
  gl := O.gl
  bl := O.bl
  ek := hk
  mono := fun mh own m m' h hm => by
    obtain ⟨h1, oC, mC, h2, h3, h4, h5⟩ := h
    exact ⟨h1, oC, mC, h2, h3, h4, fun y v e => h5 y v (hm y v e)⟩

section
variable {scope : Scope} {cl : List (PySem.Str × Addr)} {C : Addr} {mh₀ : PySem.Str → Option Value} {own₀ : List (Addr × Obj)}
theorem evc_local {x : PySem.Str} {pos : Pos} {v : AV} {Q : AV → Store → Prop} (hv : get x m = some v) (h : Q v σ) (hl : scope.names.lookup x = some .local := by rfl) (hk : scope.kind = .function := by rfl)
    (hd : (x == ("__debug__" : PySem.Str)) = false := by rfl) : Ev prog w (cfm F scope cl C mh₀ own₀) σ m (.Name x pos) Q := by
  intro fr s Q' E S k
  obtain ⟨mh, own, ⟨⟨rfl, oC, mC, rfl, hne, hC, hm⟩, dj⟩, c⟩ := id S
  obtain ⟨u, r, h1⟩ := hm x v hv
  rcases h1 with ⟨_, hu⟩ | ⟨q, _⟩
  · exact wpAny_Name (wpAny_loadName_local (env := compEnvC scope cl C F.env) hk (lookup_relabel_local hl) (hC.ns (c.frAt (p := (C, oC)) (by simp))) hu (k u v s.heap s.toks σ r S h)) hd
  · rw [hl] at q; cases q
theorem evc_free {x : PySem.Str} {pos : Pos} {v : AV} {Q : AV → Store → Prop} (hv : get x m = some v) (h : Q v σ) (hl : scope.names.lookup x = some .free := by rfl) (hk : scope.kind = .function := by rfl)
    (hc : (compEnvC scope cl C F.env).kindOf x = some .cell := by rfl)
    (hd : (x == ("__debug__" : PySem.Str)) = false := by rfl) : Ev prog w (cfm F scope cl C mh₀ own₀) σ m (.Name x pos) Q := by
  intro fr s Q' E S k
  obtain ⟨mh, own, ⟨⟨rfl, oC, mC, rfl, hne, hC, hm⟩, dj⟩, c⟩ := id S
  obtain ⟨u, r, h1⟩ := hm x v hv
  rcases h1 with ⟨q, _⟩ | ⟨_, a, o, h2, h3, h4⟩
  · rw [hl] at q; cases q
  · exact wpAny_Name (wpAny_loadName_cell (env := compEnvC scope cl C F.env) hk hc h2 ⟨o, c.frAt (p := (a, o)) (by simp [h3]), h4⟩ (k u v s.heap s.toks σ r S h)) hd
theorem asgc_name {x : PySem.Str} {pos : Pos} {v : AV} {Q : Loc → Prop} (h : Q (put x v m)) (hl : scope.names.lookup x = some .local := by rfl) (hk : scope.kind = .function := by rfl) :
    Asg prog w (cfm F scope cl C mh₀ own₀) σ m (.Name x pos) v Q := by
  intro u r fr s Q' E S k
  obtain ⟨mh, own, ⟨⟨rfl, oC, mC, rfl, hne, hC, hm⟩, dj⟩, c⟩ := S
  refine wpAny_assign_Name (wpAny_storeName_local (env := compEnvC scope cl C F.env) (lookup_relabel_local hl) (hC.ns (c.frAt (p := (C, oC)) (by simp))) (fun h₃ hn₃ hs₃ => ?_) (by simp [compEnvC, relabel, hk]))
  obtain ⟨oC', hg, hC'⟩ := LCg.ns_obj hn₃
  refine k h₃ _ _ ⟨mh, (C, oC') :: own₀, ⟨⟨rfl, oC', _, rfl, hne, hC', fun y v' e => ?_⟩, fun p hp q hq => ?_⟩, Co.updFr (fr₁ := []) c (fun p hp => ?_) hs₃ hg⟩ h
  · rw [get_put] at e
    by_cases q : y = x
    · rw [if_pos q] at e; cases e
      exact ⟨u, r, .inl ⟨by rw [q]; exact hl, if_pos q⟩⟩
    · rw [if_neg q] at e
      obtain ⟨u', a, b⟩ := hm y v' e
      refine ⟨u', a, ?_⟩
      rcases b with ⟨b1, b2⟩ | b
      · exact .inl ⟨b1, (if_neg q).trans b2⟩
      · exact .inr b
  · rcases List.mem_cons.mp hp with rfl | hp
    · exact dj (C, oC) (.head _) q hq
    · exact dj p (.tail _ hp) q hq
  · rcases List.mem_append.mp (show p ∈ own₀ ++ fr from hp) with hp | hp
    · exact hne p hp
    · exact fun e => dj (C, oC) (.head _) p hp e.symm
end

/-- a hidden object goes -/
theorem Co.endFr {h₀ : Heap} {L : Addr} {mh : PySem.Str → Option Value} {fr fr' : List (Addr × Obj)} {h h' : Heap} {a : Addr} {o : Obj} (S : Co prog w h₀ L mh fr σ h) (hm : (a, o) ∈ fr) (hs : Heap.ExtBut a h h') (hsub : ∀ p ∈ fr', p ∈ fr ∧ p.1 ≠ a) : Co prog w h₀ L mh fr' σ h' := by
  obtain ⟨news, F', N, h2, h3, hb, h4⟩ := S
  have hit := h2 _ hm
  have nit := N _ hit.1
  refine ⟨news.filter (fun p => p.1 != a), ⟨F'.ns.extBut hs nit.2.1.symm, fun b x e => hs b x (fun q => by rw [q, nit.2.2] at e; cases e) (F'.keep b x e), F'.above⟩, fun p hp => ?_, fun p hp => ?_, fun b o' e => ?_, hb, h4⟩
  · obtain ⟨hp, hne⟩ := List.mem_filter.mp hp
    exact ⟨hs _ _ (by simpa using hne) (N p hp).1, (N p hp).2⟩
  · obtain ⟨hp, hne⟩ := hsub p hp
    exact ⟨List.mem_filter.mpr ⟨(h2 p hp).1, by simpa using hne⟩, (h2 p hp).2⟩
  · obtain ⟨ro, hm, r⟩ := h3 b o' e
    have hne : b ≠ a := fun q => by rw [q, hit.2] at e; cases e
    exact ⟨ro, List.mem_filter.mpr ⟨hm, by simpa using hne⟩, r⟩
/-- a hidden object is shown -/
theorem Co.show {h₀ : Heap} {L : Addr} {mh : PySem.Str → Option Value} {fr fr' : List (Addr × Obj)} {h : Heap} {a : Addr} {o : Obj} {ao : AO} (S : Co prog w h₀ L mh fr σ h) (hm : (a, o) ∈ fr) (r : OR prog w ao o) (hmod : sysModules < a) (hsub : ∀ p ∈ fr', p ∈ fr ∧ p.1 ≠ a) : σ a = none ∧ Co prog w h₀ L mh fr' (upd σ a ao) h := by
  obtain ⟨news, F', N, h2, h3, hb, h4⟩ := S
  refine ⟨(h2 _ hm).2, news, F', N, fun p hp => ?_, fun b o' e => ?_, hb, fun b o' e => ?_⟩
  · obtain ⟨hp, hne⟩ := hsub p hp
    refine ⟨(h2 p hp).1, ?_⟩
    unfold upd; rw [if_neg hne]; exact (h2 p hp).2
  · unfold upd at e
    by_cases q : b = a
    · rw [if_pos q] at e; cases e; subst q
      exact ⟨o, (h2 _ hm).1, r⟩
    · rw [if_neg q] at e
      exact h3 b o' e
  · unfold upd at e
    by_cases q : b = a
    · rw [q]; exact hmod
    · rw [if_neg q] at e
      exact h4 b o' e

/-- the items left, those made -/
noncomputable def CmpP (prog : Program) (w : World) (F' : Fm) (target elt : PySem.Expr) (l : Addr) (o₀ : Option AO) (Q : List AV → Store → Prop) : List AV → List AV → Store → Loc → Prop
  | [], ys, σ, m => σ l = o₀ ∧ ys.length ≤ small ∧ Q ys σ
  | x :: xs, ys, σ, m => σ l = o₀ ∧ ys.length ≤ small ∧ Asg prog w F' σ m target x fun m₁ => Ev prog w F' σ m₁ elt fun y σ₂ => CmpP prog w F' target elt l o₀ Q xs (ys ++ [y]) σ₂ m₁
theorem CmpP.at {F' : Fm} {target elt : PySem.Expr} {l : Addr} {o₀ : Option AO} {Q : List AV → Store → Prop} : ∀ {xs ys : List AV}, CmpP prog w F' target elt l o₀ Q xs ys σ m → σ l = o₀
  | [], _, h => h.1
  | _ :: _, _, h => h.1
theorem CmpP.len {F' : Fm} {target elt : PySem.Expr} {l : Addr} {o₀ : Option AO} {Q : List AV → Store → Prop} : ∀ {xs ys : List AV}, CmpP prog w F' target elt l o₀ Q xs ys σ m → ys.length ≤ small
  | [], _, h => h.2.1
  | _ :: _, _, h => h.2.1

/-- what a block starts with: its free names -/
noncomputable def freeOf (scope : Scope) (m : Loc) : Loc := m.filter fun p => scope.names.lookup p.1 == some .free

noncomputable abbrev lstO (us : List Value) (n : Nat) : Obj := { cls := .type "list", data := .seq us.toArray n }

theorem comp_loop_any {A : Around} {s : Shared} {elt target iter : PySem.Expr} {scope : Scope} {pos : Pos} {it acc : Value} {env : Env} {R : Result → Shared → Prop} (I : Nat → Shared → Prop)
    (turn : ∀ n s, I n s → wpAny (model prog w) A (pyNext it) (fun r s₁ => match r with
      | none => R (.ok .next) s₁
      | some v => wpAny (model prog w) A (letOwnedTupleGo target it v) (fun _ s₁' => wpAny (model prog w) A (assign target env v) (fun _ s₂ =>
          wpAny (model prog w) A (eval elt env) (fun x s₄ =>
              wpAny (model prog w) A (call (.builtin "list.append") [acc, x]) (fun _ s₅ => ∃ m, m < n ∧ I m s₅) (notedBy (model prog w) A env fun e s' => R (.error e) s') s₄) (notedBy (model prog w) A env fun e s' => R (.error e) s') s₂)
          (notedBy (model prog w) A env fun e s' => R (.error e) s') s₁') (notedBy (model prog w) A env fun e s' => R (.error e) s') s₁) (notedBy (model prog w) A env fun e s' => R (.error e) s') s)
    (n : Nat) (h : I n s) : codeAny (model prog w) A (.compLoop (.ListComp elt [⟨target, iter, [], 0⟩] scope pos) 0 it acc env) R s := by
  refine codeAny_loop rfl I (fun n s hI => ?_) n h
  show wpAny _ A ((compTurn (.ListComp elt [⟨target, iter, [], 0⟩] scope pos) 0 it acc env).onRaise (fun x => do noteFrame x env; theTreesLotGoes x)) _ _ s
  refine wpAny_noted ?_
  rw [compTurn_list]
  refine wpAny_bind (wpAny_standAt (wpAny_bind (wpAny_mono (turn n s hI) (fun r s₁ h₁ => ?_) fun _ _ h' => h')))
  cases r with
  | none => exact wpAny_pure h₁
  | some v =>
    refine wpAny_bind (wpAny_mono h₁ (fun _ s₁' h₁' => ?_) fun _ _ h' => h')
    refine wpAny_bind (wpAny_mono h₁' (fun _ s₂ h₂ => wpAny_bind (wpAny_mono (wpAny_tests_nil (Q := fun ok s₃ => ok = true ∧ s₃ = s₂) ⟨rfl, rfl⟩) (fun ok s₃ h₃ => ?_) fun _ _ h' => h')) fun _ _ h' => h')
    obtain ⟨rfl, rfl⟩ := h₃
    exact wpAny_bind (wpAny_bind (wpAny_mono h₂ (fun x s₄ h₄ => wpAny_bind (wpAny_mono h₄ (fun _ s₅ h₅ => wpAny_pure (wpAny_pure ⟨rfl, h₅⟩)) fun _ _ h' => h')) fun _ _ h' => h'))

theorem comp_block {target elt iter : PySem.Expr} {scope : Scope} {cl : List (PySem.Str × Addr)} {pos : Pos} {l it : Addr} {xs : List AV} {o : Obj} {mh₀ : PySem.Str → Option Value} {own₀ : List (Addr × Obj)} {m' : Loc} {fr : List (Addr × Obj)} {s : Shared} {RR : Value → Addr → Result → Shared → Prop} {E : Value → Shared → Prop} {Q : List AV → Store → Prop}
    (O : F.Ok K) (hNR : F.NR mh₀ own₀ m ∧ Dj own₀ ((it, o) :: fr)) (S : Co prog w F.C.h₀ F.C.L mh₀ (own₀ ++ (it, o) :: fr) σ s.heap) (I : ItS σ l xs 0 o) (hn : ∀ p ∈ fr, p.1 ≠ it)
    (hcell : ∀ y ∈ scope.names, y.2 ≠ .cell) (hkind : scope.kind = .function)
    (hfree : ∀ y v, get y m' = some v → ∃ u, VR v u ∧ scope.names.lookup y = some .free ∧ ∃ c o, cl.lookup y = some c ∧ (c, o) ∈ own₀ ∧ o.data = .cell (some u))
    (h : ∀ C, CmpP prog w (cfm F scope cl C mh₀ own₀) target elt l (σ l) Q xs [] σ m')
    (hRR : ∀ D C oC mC h₂ tk σ₂ ys, (∀ p ∈ own₀ ++ fr, p.1 ≠ C) → LCg.NsObj oC mC → Co prog w F.C.h₀ F.C.L mh₀ ((C, oC) :: (own₀ ++ fr)) (upd σ₂ D (.list ys)) h₂ → σ₂ D = none → Q ys σ₂ → RR (.ref D) C (.ok .next) { s with heap := h₂, toks := tk }) :
    wpAny (model prog w) F.C.A (newList []) (fun acc s₃ => wpAny (model prog w) F.C.A (newFunctionEnv scope F.env.globals cl [] F.env.qual none .none (some F.env)) (fun cenv s₄ =>
      codeAny (model prog w) F.C.A (.compStart (.ListComp elt [⟨target, iter, [], 0⟩] scope pos) 0 (.ref it) acc { cenv with scope := relabel scope F.env }) (RR acc cenv.locals) s₄) E s₃) E s := by
  refine wpAny_newObj_type (wpAny_newFunctionEnv hcell (by intro y hy; simp at hy) (fun h₁ hns₁ hsb₁ => ?_) hkind)
  dsimp only at hns₁ hsb₁ ⊢
  have hDm : sysModules < s.heap.objs.size := by
    obtain ⟨news, F', N, h2, h3, hb, h4⟩ := id S
    exact Nat.lt_of_lt_of_le hb (Nat.le_trans F'.above (Nat.le_of_lt F'.ns.lt))
  have ltO : ∀ p ∈ own₀ ++ (it, o) :: fr, p.1 < s.heap.objs.size := fun p hp => Heap.lt_size (S.frAt hp)
  have S₁ := S.hide (ro := lstO [] 0) rfl
  have S₂ := S₁.hide (ro := { cls := .type "dict", data := .dict #[] }) rfl
  generalize hD : s.heap.objs.size = D at *
  have hC : (s.heap.push (lstO [] 0)).objs.size = D + 1 := by rw [Heap.size_push, hD]
  obtain ⟨oC, hgC, hCo⟩ := LCg.ns_obj hns₁
  have S₃ : Co prog w F.C.h₀ F.C.L mh₀ ((D + 1, oC) :: (D, lstO [] 0) :: (own₀ ++ (it, o) :: fr)) σ h₁ := by
    rw [hC] at S₂
    refine Co.updFr (fr₁ := []) S₂ (fun p hp => ?_) ?_ ?_
    · rcases List.mem_cons.mp hp with rfl | hp
      · exact Nat.ne_of_lt (Nat.lt_succ_self D)
      · exact Nat.ne_of_lt (Nat.lt_succ_of_lt (ltO p hp))
    · rw [← hC]; exact hsb₁
    · rw [← hC]; exact hgC
  rw [hC] at hgC ⊢
  have hCne : ∀ p ∈ own₀ ++ fr, p.1 ≠ D + 1 := fun p hp => by
    have : p ∈ own₀ ++ (it, o) :: fr := by
      rcases List.mem_append.mp hp with q | q
      · exact List.mem_append_left _ q
      · exact List.mem_append_right _ (.tail _ q)
    exact Nat.ne_of_lt (Nat.lt_succ_of_lt (ltO p this))
  have hDne : ∀ p ∈ own₀ ++ fr, p.1 ≠ D := fun p hp => by
    have : p ∈ own₀ ++ (it, o) :: fr := by
      rcases List.mem_append.mp hp with q | q
      · exact List.mem_append_left _ q
      · exact List.mem_append_right _ (.tail _ q)
    exact Nat.ne_of_lt (ltO p this)
  have hitlt : it < D := ltO (it, o) (by simp)
  have O' : (cfm F scope cl (D + 1) mh₀ own₀).Ok K := cfm_ok O hkind
  have hn' : ∀ us n, ∀ p ∈ (D, lstO us n) :: fr, p.1 ≠ it := fun us n p hp => by
    rcases List.mem_cons.mp hp with rfl | hp
    · exact Ne.symm (Nat.ne_of_lt hitlt)
    · exact hn p hp
  have S₄ : St prog w (cfm F scope cl (D + 1) mh₀ own₀) ((it, o) :: (D, lstO [] 0) :: fr) σ m' h₁ := by
    refine ⟨mh₀, (D + 1, oC) :: own₀, ⟨⟨rfl, oC, _, rfl, fun p hp => hCne p (List.mem_append_left _ hp), hCo, fun y v e => ?_⟩, fun p hp q hq => ?_⟩, S₃.less fun p hp => ?_⟩
    · obtain ⟨u, r, a⟩ := hfree y v e
      exact ⟨u, r, .inr a⟩
    · rcases List.mem_cons.mp hp with rfl | hp
      · rcases List.mem_cons.mp hq with rfl | hq
        · exact Ne.symm (Nat.ne_of_lt (Nat.lt_succ_of_lt hitlt))
        · rcases List.mem_cons.mp hq with rfl | hq
          · exact Ne.symm (Nat.ne_of_lt (Nat.lt_succ_self D))
          · exact fun e => hCne q (List.mem_append_right _ hq) e.symm
      · rcases List.mem_cons.mp hq with rfl | hq
        · exact hNR.2 p hp (it, o) (.head _)
        · rcases List.mem_cons.mp hq with rfl | hq
          · exact hDne p (List.mem_append_left _ hp)
          · exact hNR.2 p hp q (.tail _ hq)
    · simp only [List.mem_append, List.mem_cons] at hp ⊢
      rcases hp with (rfl | hp) | rfl | rfl | hp <;> simp_all
  have loop : codeAny (model prog w) F.C.A (.compLoop (.ListComp elt [⟨target, iter, [], 0⟩] scope pos) 0 (.ref it) (.ref D) (compEnvC scope cl (D + 1) F.env)) (RR (.ref D) (D + 1)) { s with heap := h₁, toks := s.toks + ([] : List (PySem.Str × Value)).length } := by
    refine comp_loop_any (fun k s' => ∃ h' tk i ys us n oI σ₂ m₂, s' = { s with heap := h', toks := tk } ∧ i ≤ xs.length ∧ k = xs.length + 1 - i ∧ VRs ys us ∧ ItS σ₂ l xs i oI ∧
        St prog w (cfm F scope cl (D + 1) mh₀ own₀) ((it, oI) :: (D, lstO us n) :: fr) σ₂ m₂ h' ∧ CmpP prog w (cfm F scope cl (D + 1) mh₀ own₀) target elt l (σ l) Q (xs.drop i) ys σ₂ m₂) ?_ (xs.length + 1)
      ⟨h₁, _, 0, [], [], 0, o, σ, m', rfl, Nat.zero_le _, rfl, .nil, I, S₄, by rw [List.drop_zero]; exact h _⟩
    rintro k s' ⟨h', tk, i, ys, us, n, oI, σ₂, m₂, rfl, hi, rfl, rys, I₂, S₅, P⟩
    by_cases hlt : i < xs.length
    · have hx : xs[i]? = some xs[i] := List.getElem?_eq_getElem hlt
      rw [List.drop_eq_getElem_cons hlt] at P
      obtain ⟨q0, qz, q₂⟩ := P
      refine it_next O' S₅ I₂ (hn' us n) hx fun u o₃ h₃ tk₃ ru I₃ S₆ => ?_
      refine it_owned S₆ I₃ target u ?_
      refine q₂ u ru _ _ _ _ S₆ fun h₄ tk₄ m₄ S₇ q₄ => ?_
      refine q₄ _ _ _ _ S₇ fun v y h₅ tk₅ σ₅ rv S₈ q₅ => ?_
      obtain ⟨mh, own, ⟨⟨rfl, oC₅, mC₅, rfl, hne₅, hC₅, hm₅⟩, dj₅⟩, c₅⟩ := S₈
      have hz : us.toArray.size ≤ sizeLine := by rw [List.size_toArray, rys.length]; exact small_le qz
      refine append_at (c₅.frAt (p := (D, lstO us n)) (by simp)) (fun h₆ hs₆ hg₆ => ?_) hz
      have e₆ : ({ cls := Value.type "list", data := Data.seq (us.toArray.push v) (n + 1) } : Obj) = lstO (us ++ [v]) (n + 1) := by
        show _ = ({ cls := Value.type "list", data := Data.seq (us ++ [v]).toArray (n + 1) } : Obj)
        congr 2
        simp
      rw [e₆] at hg₆
      have c₆ := Co.updFr (fr₁ := ((D + 1, oC₅) :: own₀) ++ [(it, o₃)]) (fr₂ := fr) (a := D) (o := lstO us n) (by simpa using c₅) (fun p hp => by
        rcases List.mem_append.mp hp with hp | hp
        · rcases List.mem_append.mp hp with hp | hp
          · rcases List.mem_cons.mp hp with rfl | hp
            · exact Ne.symm (Nat.ne_of_lt (Nat.lt_succ_self D))
            · exact hDne p (List.mem_append_left _ hp)
          · rcases List.mem_singleton.mp hp with rfl
            exact Nat.ne_of_lt hitlt
        · exact hDne p (List.mem_append_right _ hp)) hs₆ hg₆
      refine ⟨xs.length + 1 - (i + 1), by (first | lia | omega), h₆, tk₅, i + 1, ys ++ [y], us ++ [v], n + 1, o₃, σ₅, m₄, rfl, hlt, rfl, rys.append (.cons rv .nil), I₃.keep (by rw [q₅.at, q0]), ⟨mh, _, ⟨⟨rfl, oC₅, mC₅, rfl, hne₅, hC₅, hm₅⟩, fun p hp q hq => ?_⟩, by simpa using c₆⟩, q₅⟩
      rcases List.mem_cons.mp hq with rfl | hq
      · exact dj₅ p hp (it, o₃) (.head _)
      · rcases List.mem_cons.mp hq with rfl | hq
        · exact dj₅ p hp (D, lstO us n) (.tail _ (.head _))
        · exact dj₅ p hp q (.tail _ (.tail _ hq))
    · have hie : i = xs.length := by (first | lia | omega)
      subst hie
      rw [List.drop_length] at P
      refine it_end O' O.hh S₅ I₂ (hn' us n) (by simp) fun h₃ S₆ => ?_
      obtain ⟨mh, own, ⟨⟨rfl, oC₅, mC₅, rfl, hne₅, hC₅, hm₅⟩, dj₅⟩, c₅⟩ := S₆
      obtain ⟨fresh, c₆⟩ := c₅.show (a := D) (o := lstO us n) (fr' := (D + 1, oC₅) :: (own₀ ++ fr)) (by simp) (OR.list n rys) hDm (fun p hp => by
        rcases List.mem_cons.mp hp with rfl | hp
        · exact ⟨by simp, Ne.symm (Nat.ne_of_lt (Nat.lt_succ_self D))⟩
        · refine ⟨?_, hDne p hp⟩
          rcases List.mem_append.mp hp with q | q <;> simp [q])
      exact hRR D (D + 1) oC₅ mC₅ h₃ tk σ₂ ys hCne hC₅ c₆ fresh P.2.2
  exact codeAny_compStart_list loop (it_self (s := { s with heap := h₁, toks := s.toks + ([] : List (PySem.Str × Value)).length }) S₄ I loop)

theorem NsObj_ns {h : Heap} {C : Addr} {oC : Obj} {mC : PySem.Str → Option Value} (x : LCg.NsObj oC mC) (e : h.get? C = some oC) : h.Ns C mC := x.ns e

/-- the free names of a block, as the frame bears them -/
noncomputable def FreeOk (F : Fm) (m : Loc) (scope : Scope) (cl : List (PySem.Str × Addr)) (m' : Loc) : Prop :=
  ∀ mh own, F.NR mh own m → ∀ y v, get y m' = some v → ∃ u, VR v u ∧ scope.names.lookup y = some .free ∧ ∃ c o, cl.lookup y = some c ∧ (c, o) ∈ own ∧ o.data = .cell (some u)
theorem free_none {scope : Scope} {cl : List (PySem.Str × Addr)} : FreeOk F m scope cl [] := fun _ _ _ y v e => nomatch e
theorem free_one {c : Fn} {sc : Scope} {x : PySem.Str} {ca : Addr} {v : AV} {scope : Scope} (hv : get x m = some v) (hl : scope.names.lookup x = some .free := by rfl) : FreeOk (c.fm sc (some (x, ca))) m scope [(x, ca)] [(x, v)] := by
  intro mh own n y v' e
  obtain ⟨u, r, _, hu⟩ := NRf.get (cl := some (x, ca)) n hv
  obtain ⟨o, ho, hd⟩ := hu ca rfl
  unfold Mine.get at e
  by_cases q : x = y
  · rw [if_pos q] at e; cases e
    subst q
    exact ⟨u, r, hl, ca, o, by simp, ho, hd⟩
  · rw [if_neg q] at e; cases e

theorem ev_comp {target elt iter : PySem.Expr} {scope : Scope} {pos : Pos} {Q : AV → Store → Prop} (cl : List (PySem.Str × Addr)) (m' : Loc) (O : F.Ok K) (hfree : FreeOk F m scope cl m')
    (h : Ev prog w F σ m iter fun v σ₁ => ∃ l xs, v = .ref l ∧ Src σ₁ l xs ∧ ∀ C mh₀ own₀, CmpP prog w (cfm F scope cl C mh₀ own₀) target elt l (σ₁ l) (fun ys σ₂ => ∀ a, σ₂ a = none → Q (.ref a) (upd σ₂ a (.list ys))) xs [] σ₁ m')
    (hclos : closureFor scope F.env = pure cl := by rfl) (hcell : (scope.names.all fun y => y.2 != .cell) = true := by rfl) (hkind : scope.kind = .function := by rfl) (hnames : (scope.names.all fun y => y.2 != .local || scope.names.lookup y.1 == some .local) = true := by rfl)
    (hs : ∀ x, foldedSetIterable iter F.env x = pure x := by intro _; rfl) : Ev prog w F σ m (.ListComp elt [⟨target, iter, [], 0⟩] scope pos) Q := by
  intro fr s Q' E S k
  rw [eval_ListComp]
  refine wpAny_comprehension_free (use := none) rfl hs hclos hkind (fun y hy e => by
    have := List.all_eq_true.mp hnames y hy
    rw [e] at this
    simpa using this) (h fr s _ E S fun x a h' tk σ₁ r S' q => ?_)
  obtain ⟨l, xs, rfl, src, P⟩ := q
  cases r
  refine it_make S' src fun it o h₁ hn I S₁ => ?_
  obtain ⟨mh₀, own₀, n, c⟩ := S₁
  refine comp_block O n c I hn (fun y hy => by simpa using List.all_eq_true.mp hcell y hy) hkind (hfree mh₀ own₀ n.1) (fun C => P C mh₀ own₀) fun D C oC mC h₂ tk σ₂ ys hC hNs c₂ fresh q => ?_
  refine ⟨mC, hNs.ns (c₂.frAt (p := (C, oC)) (.head _)), fun h₃ hs₃ => ?_⟩
  have c₃ := c₂.endFr (fr' := own₀ ++ fr) (a := C) (.head _) hs₃.extBut fun p hp => ⟨.tail _ hp, hC p hp⟩
  exact k _ _ _ _ _ (.ref D) ⟨mh₀, own₀, ⟨n.1, fun p hp q hq => n.2 p hp q (.tail _ hq)⟩, c₃⟩ (q D fresh)

/-- x = [..]: the list goes into its name before the block's names go -/
theorem ex_assign_comp {c : Fn} {sc : Scope} {cl₀ : Option (PySem.Str × Addr)} {x : PySem.Str} {px : Pos} {target elt iter : PySem.Expr} {scope : Scope} {pos spos : Pos} {Q : Fl → Store → Loc → Prop} (cl : List (PySem.Str × Addr)) (m' : Loc) (O : (c.fm sc cl₀).Ok K) (hfree : FreeOk (c.fm sc cl₀) m scope cl m')
    (h : Ev prog w (c.fm sc cl₀) σ m iter fun v σ₁ => ∃ l xs, v = .ref l ∧ Src σ₁ l xs ∧ ∀ C mh₀ own₀, CmpP prog w (cfm (c.fm sc cl₀) scope cl C mh₀ own₀) target elt l (σ₁ l) (fun ys σ₂ => ∀ a, σ₂ a = none → Q .next (upd σ₂ a (.list ys)) (put x (.ref a) m)) xs [] σ₁ m')
    (hsw : swapsWith (.ListComp elt [⟨target, iter, [], 0⟩] scope pos) (some (.Name x px)) spos.line (c.fm sc cl₀).env = pure true := by rfl)
    (hl : sc.names.lookup x = some .local := by rfl) (hc : (cl₀.all fun p => !(decide (x = p.1))) = true := by rfl) (hk : sc.kind = .function := by rfl)
    (hclos : closureFor scope (c.fm sc cl₀).env = pure cl := by rfl) (hcell : (scope.names.all fun y => y.2 != .cell) = true := by rfl) (hkind : scope.kind = .function := by rfl) (hnames : (scope.names.all fun y => y.2 != .local || scope.names.lookup y.1 == some .local) = true := by rfl)
    (hs : ∀ x, foldedSetIterable iter (c.fm sc cl₀).env x = pure x := by intro _; rfl) : Ex1 prog w (c.fm sc cl₀) σ m (.Assign [.Name x px] (.ListComp elt [⟨target, iter, [], 0⟩] scope pos) spos) Q := by
  intro fr s Q' E S k
  rw [exec_Assign_Name_used _ _ _ _ hsw]
  refine wpAny_bind (wpAny_standAt (wpAny_bind ?_))
  show wpAny _ _ (do let _ ← comprehension (.ListComp elt [⟨target, iter, [], 0⟩] scope pos) scope (c.fm sc cl₀).env _ (newList []) false (eval iter (c.fm sc cl₀).env) (some (assign (.Name x px) (c.fm sc cl₀).env))) _ _ s
  refine wpAny_bind (wpAny_mono (wpAny_comprehension_free (use := some (assign (.Name x px) (c.fm sc cl₀).env)) (Q := fun _ s' => Q' .next s') rfl hs hclos hkind (fun y hy e => by
    have := List.all_eq_true.mp hnames y hy
    rw [e] at this
    simpa using this) (h fr s _ E S fun y a h' tk σ₁ r S' q => ?_)) (fun _ s' hq => wpAny_pure (wpAny_pure hq)) fun _ _ e => e)
  obtain ⟨l, xs, rfl, src, P⟩ := q
  cases r
  refine it_make S' src fun it o h₁ hn I S₁ => ?_
  obtain ⟨mh₀, own₀, n, c₁⟩ := S₁
  refine comp_block O n c₁ I hn (fun y hy => by simpa using List.all_eq_true.mp hcell y hy) hkind (hfree mh₀ own₀ n.1) (fun C => P C mh₀ own₀) fun D C oC mC h₂ tk σ₂ ys hC hNs c₂ fresh q => ?_
  have S₂ : St prog w (c.fm sc cl₀) ((C, oC) :: fr) (upd σ₂ D (.list ys)) m h₂ := ⟨mh₀, own₀, ⟨n.1, fun p hp q hq => by
    rcases List.mem_cons.mp hq with rfl | hq
    · exact hC p (List.mem_append_left _ hp)
    · exact n.2 p hp q (.tail _ hq)⟩, c₂.less fun p hp => by
    rcases List.mem_append.mp hp with hp | hp
    · exact .tail _ (List.mem_append_left _ hp)
    · rcases List.mem_cons.mp hp with rfl | hp
      · exact .head _
      · exact .tail _ (List.mem_append_right _ hp)⟩
  show wpAny _ _ (assign (.Name x px) (c.fm sc cl₀).env (.ref D)) _ _ _
  refine wpAny_assign_Name (store_local (v := .ref D) (.ref D) S₂ (fun h₃ tk₃ S₃ => ?_) hl hc hk)
  refine ⟨mC, hNs.ns (S₃.frAt (p := (C, oC)) (.head _)), fun h₄ hs₄ => ?_⟩
  obtain ⟨mh₃, own₃, n₃, c₃⟩ := S₃
  refine k _ _ _ _ _ _ .next ⟨mh₃, own₃, ⟨n₃.1, fun p hp q hq => n₃.2 p hp q (.tail _ hq)⟩, c₃.endFr (a := C) (o := oC) (List.mem_append_right _ (.head _)) hs₄.extBut fun p hp => ?_⟩ (q D fresh)
  rcases List.mem_append.mp hp with hp | hp
  · exact ⟨List.mem_append_left _ hp, n₃.2 p hp (C, oC) (.head _)⟩
  · exact ⟨List.mem_append_right _ (.tail _ hp), hC p (List.mem_append_right _ hp)⟩
end Mine
namespace Mine
local macro_rules
  | `(tactic| walk_at "O") => `(tactic| first
    | assumption
    | exact Nat.le_refl _
    | exact Nat.zero_le _
    | exact Nat.le_of_lt (by assumption)
    | exact Nat.le_of_lt_succ (by assumption)
    | exact Nat.le_add_right _ _
    | exact Nat.le_add_left _ _
    | exact Nat.le_succ_of_le (by assumption)
    | exact Nat.succ_le_succ (by assumption)
    | exact Nat.sub_le _ _
    | exact Nat.sub_lt (by assumption) Nat.one_pos
    | exact Nat.sub_le_sub_right (by assumption) _
    | exact Nat.lt_of_lt_of_le (by assumption) (by assumption)
    | exact Nat.lt_of_le_of_lt (by assumption) (by assumption)
    | exact Nat.le_antisymm (by assumption) (by assumption)
    | exact Nat.lt_of_le_of_ne (by assumption) (by assumption)
    | (first | lia | omega))

/-! the sort's questions, answered by a total preorder: what comes is a sorted permutation -/
structure LtOk (lt : Nat → Nat → Bool) : Prop where
  asy : ∀ i j, lt i j = true → lt j i = false
  tr : ∀ i j k, lt j i = false → lt k j = false → lt k i = false
noncomputable def Tw (lt : Nat → Nat → Bool) (n : Nat) {α : Type} : KasT α → (α → Prop) → Prop
  | .ret a, P => P a
  | .ask i j k, P => i < n ∧ j < n ∧ Tw lt n (k (lt i j)) P
section
variable {lt : Nat → Nat → Bool} {n : Nat}
theorem Tw.mono {α : Type} {P P' : α → Prop} (h : ∀ a, P a → P' a) : ∀ {t : KasT α}, Tw lt n t P → Tw lt n t P'
  | .ret a, q => h a q
  | .ask i j k, q => ⟨q.1, q.2.1, Tw.mono h q.2.2⟩
theorem Tw.bind {α β : Type} {f : α → KasT β} {P : β → Prop} : ∀ {t : KasT α}, Tw lt n t (fun a => Tw lt n (f a) P) → Tw lt n (t.bind f) P
  | .ret a, q => q
  | .ask i j k, q => ⟨q.1, q.2.1, Tw.bind q.2.2⟩

noncomputable def at0 (p : Array Nat) (i : Nat) : Nat := p.getD i 0
theorem at0_eq (p : Array Nat) (i : Nat) : at0 p i = (p[i]?).getD 0 := by unfold at0; simp
noncomputable def Up (lt : Nat → Nat → Bool) (p : Array Nat) (k : Nat) : Prop := ∀ i j, i ≤ j → j < k → lt (at0 p j) (at0 p i) = false
noncomputable def Dn (lt : Nat → Nat → Bool) (p : Array Nat) (k : Nat) : Prop := ∀ i j, i ≤ j → j < k → lt (at0 p i) (at0 p j) = false
structure PR (n : Nat) (p : Array Nat) : Prop where
  perm : p.toList.Perm (List.range n)
theorem PR.size {p : Array Nat} (h : PR n p) : p.size = n := by have := h.perm.length_eq; simpa using this
theorem PR.inR {p : Array Nat} (h : PR n p) {i : Nat} (hi : i < n) : at0 p i < n := by
  have hs := h.size
  have : at0 p i ∈ p.toList := by
    rw [at0_eq, Array.getElem?_eq_getElem (by walk_at "O")]
    simp
  have := h.perm.mem_iff.mp this
  simpa using this
theorem PR.rev {p : Array Nat} (h : PR n p) (i j : Nat) : PR n (kas_rev p i j) := ⟨(Array.perm_iff_toList_perm.mp (mirror_perm p i j _)).trans h.perm⟩
theorem PR.bub {p : Array Nat} (h : PR n p) (i j : Nat) : PR n (bubble p i j) := ⟨(Array.perm_iff_toList_perm.mp (bubble_perm p i j)).trans h.perm⟩
theorem rev_at {p : Array Nat} {i j : Nat} (hj : j ≤ p.size) (k : Nat) : at0 (kas_rev p i j) k = if i ≤ k ∧ k < j then at0 p (i + (j - 1 - k)) else at0 p k := by
  rw [at0_eq]
  unfold kas_rev
  rw [getElem?_mirror_all hj k]
  split
  · rw [at0_eq, show i + j - 1 - k = i + (j - 1 - k) by walk_at "O"]
  · rw [at0_eq]

theorem asc_ok (O : LtOk lt) {p : Array Nat} (hp : PR n p) : ∀ (f m : Nat) {P : Nat → Prop}, 1 ≤ m → m + f ≤ n → Up lt p m → (∀ r, m ≤ r → r ≤ m + f → Up lt p r → (r < m + f → lt (at0 p r) (at0 p (r - 1)) = true) → P r) → Tw lt n (kas_asc p f m) P
  | 0, m, P, h1, h2, u, k => k m (Nat.le_refl _) (Nat.le_refl _) u (fun h => absurd h (Nat.lt_irrefl _))
  | f + 1, m, P, h1, h2, u, k => by
    refine ⟨hp.inR (by walk_at "O"), hp.inR (by walk_at "O"), ?_⟩
    show Tw lt n (if lt (at0 p m) (at0 p (m - 1)) = true then .ret m else kas_asc p f (m + 1)) P
    cases c : lt (at0 p m) (at0 p (m - 1)) with
    | true => rw [if_pos rfl]; exact k m (Nat.le_refl _) (by walk_at "O") u fun _ => c
    | false =>
      rw [if_neg (by simp)]
      refine asc_ok O hp f (m + 1) (by walk_at "O") (by walk_at "O") (fun i j hij hj => ?_) fun r h3 h4 u' h5 => k r (by walk_at "O") (by walk_at "O") u' fun h => h5 (by walk_at "O")
      by_cases q : j < m
      · exact u i j hij q
      · have : j = m := by walk_at "O"
        subst this
        by_cases q2 : i = j
        · subst q2
          cases z : lt (at0 p i) (at0 p i) with
          | false => rfl
          | true => have := O.asy _ _ z; rw [z] at this; cases this
        · exact O.tr _ _ _ (u i (j - 1) (by walk_at "O") (by walk_at "O")) c
theorem LtOk.irr (O : LtOk lt) (i : Nat) : lt i i = false := by
  cases z : lt i i with
  | false => rfl
  | true => have := O.asy _ _ z; rw [z] at this; cases this

/-- the last q + 1 of m weigh alike -/
noncomputable def Alike (lt : Nat → Nat → Bool) (p : Array Nat) (m q : Nat) : Prop := ∀ i, m - (q + 1) ≤ i → i < m → lt (at0 p (m - 1)) (at0 p i) = false
theorem rev_alike (O : LtOk lt) {p : Array Nat} {m q : Nat} (hm : m ≤ p.size) (hq : q + 1 ≤ m) (d : Dn lt p m) (a : Alike lt p m q) : Dn lt (kas_rev p (m - (q + 1)) m) m ∧ lt (at0 (kas_rev p (m - (q + 1)) m) (m - 1)) (at0 p (m - 1)) = false := by
  have key : ∀ i, i < m → lt (at0 (kas_rev p (m - (q + 1)) m) i) (at0 p i) = false ∧ lt (at0 p i) (at0 (kas_rev p (m - (q + 1)) m) i) = false := by
    intro i hi
    rw [rev_at hm]
    split
    · rename_i h
      have h2 : m - (q + 1) + (m - 1 - i) < m := by walk_at "O"
      have h3 : m - (q + 1) ≤ m - (q + 1) + (m - 1 - i) := by walk_at "O"
      refine ⟨?_, ?_⟩
      · exact O.tr _ (at0 p (m - 1)) _ (a i h.1 hi) (d _ _ (by walk_at "O") (by walk_at "O"))
      · exact O.tr _ (at0 p (m - 1)) _ (a _ h3 h2) (d _ _ (by walk_at "O") (by walk_at "O"))
    · exact ⟨O.irr _, O.irr _⟩
  refine ⟨fun i j hij hj => ?_, (key (m - 1) (by walk_at "O")).1⟩
  have h1 := key i (by walk_at "O")
  have h2 := key j hj
  exact O.tr _ (at0 p j) _ h2.2 (O.tr _ (at0 p i) _ (d i j hij hj) h1.1)
theorem desc_ok (O : LtOk lt) (hn : n ≤ n) : ∀ (f : Nat) (p : Array Nat) (m q : Nat) {P : Array Nat × Nat × Nat → Prop}, PR n p → 1 ≤ m → m + f ≤ n → q + 1 ≤ m → Dn lt p m → Alike lt p m q →
    (∀ p' m' q', PR n p' → m ≤ m' → m' ≤ m + f → q' + 1 ≤ m' → Dn lt p' m' → Alike lt p' m' q' → P (p', m', q')) → Tw lt n (kas_desc f p m q) P
  | 0, p, m, q, P, hp, h1, h2, hq, d, a, k => k p m q hp (Nat.le_refl _) (Nat.le_refl _) hq d a
  | f + 1, p, m, q, P, hp, h1, h2, hq, d, a, k => by
    have hs := hp.size
    refine ⟨hp.inR (by walk_at "O"), hp.inR (by walk_at "O"), ?_⟩
    show Tw lt n (if lt (at0 p m) (at0 p (m - 1)) = true then (if q > 0 then kas_desc f (kas_rev p (m - (q + 1)) m) (m + 1) 0 else kas_desc f p (m + 1) 0) else _) P
    have one : ∀ (p' : Array Nat), PR n p' → Dn lt p' m → at0 p' m = at0 p m → lt (at0 p' (m - 1)) (at0 p (m - 1)) = false → lt (at0 p (m - 1)) (at0 p' (m - 1)) = false → lt (at0 p m) (at0 p (m - 1)) = true → Tw lt n (kas_desc f p' (m + 1) 0) P := by
      intro p' hp' d' e e1 e2 c
      refine desc_ok O hn f p' (m + 1) 0 hp' (by walk_at "O") (by walk_at "O") (by walk_at "O") (fun i j hij hj => ?_) (fun i h3 h4 => ?_) fun p₂ m₂ q₂ x1 x2 x3 x4 x5 x6 => k p₂ m₂ q₂ x1 (by walk_at "O") (by walk_at "O") x4 x5 x6
      · by_cases z : j < m
        · exact d' i j hij z
        · have : j = m := by walk_at "O"
          subst this
          by_cases z2 : i = j
          · subst z2; exact O.irr _
          · rw [e]
            exact O.tr _ _ _ (O.tr _ (at0 p (j - 1)) _ (O.asy _ _ c) e1) (d' i (j - 1) (by walk_at "O") (by walk_at "O"))
      · have : i = m := by walk_at "O"
        subst this
        rw [show i + 1 - 1 = i by walk_at "O"]; exact O.irr _
    cases c : lt (at0 p m) (at0 p (m - 1)) with
    | true =>
      rw [if_pos rfl]
      by_cases hq0 : q > 0
      · rw [if_pos hq0]
        obtain ⟨d', e1⟩ := rev_alike O (by walk_at "O") hq d a
        refine one _ (hp.rev _ _) d' ?_ e1 ?_ c
        · rw [rev_at (by walk_at "O"), if_neg (by walk_at "O")]
        · rw [rev_at (by walk_at "O"), if_pos (by walk_at "O")]
          exact a _ (by walk_at "O") (by walk_at "O")
      · rw [if_neg hq0]
        exact one p hp d rfl (O.irr _) (O.irr _) c
    | false =>
      rw [if_neg (by simp)]
      refine ⟨hp.inR (by walk_at "O"), hp.inR (by walk_at "O"), ?_⟩
      show Tw lt n (if lt (at0 p (m - 1)) (at0 p m) = true then _ else _) P
      cases c2 : lt (at0 p (m - 1)) (at0 p m) with
      | true => rw [if_pos rfl]; exact k p m q hp (Nat.le_refl _) (by walk_at "O") hq d a
      | false =>
        rw [if_neg (by simp)]
        refine desc_ok O hn f p (m + 1) (q + 1) hp (by walk_at "O") (by walk_at "O") (by walk_at "O") (fun i j hij hj => ?_) (fun i h3 h4 => ?_) fun p₂ m₂ q₂ x1 x2 x3 x4 x5 x6 => k p₂ m₂ q₂ x1 (by walk_at "O") (by walk_at "O") x4 x5 x6
        · by_cases z : j < m
          · exact d i j hij z
          · have : j = m := by walk_at "O"
            subst this
            by_cases z2 : i = j
            · subst z2; exact O.irr _
            · exact O.tr _ _ _ c2 (d i (j - 1) (by walk_at "O") (by walk_at "O"))
        · rw [show m + 1 - 1 = m by walk_at "O"]
          by_cases z : i = m
          · subst z; exact O.irr _
          · exact O.tr _ _ _ (a i (by walk_at "O") (by walk_at "O")) c

theorem tail3_ok (O : LtOk lt) {m : Nat} {p : Array Nat} {P : Nat × Array Nat → Prop} (hp : PR n p) (h1 : 1 ≤ m) (h2 : m ≤ n) (d : Dn lt p m) (k : ∀ r p', PR n p' → 1 ≤ r → r ≤ n → Up lt p' r → P (r, p')) : Tw lt n (kas_tail3 m n p) P := by
  refine Tw.bind (asc_ok O (hp.rev 0 m) (n - m) m h1 (by walk_at "O") (fun i j hij hj => ?_) fun r h3 h4 u _ => ?_)
  · rw [rev_at (by have := hp.size; (first | lia | omega)), rev_at (by have := hp.size; (first | lia | omega)), if_pos (by walk_at "O"), if_pos (by walk_at "O")]
    exact d _ _ (by walk_at "O") (by walk_at "O")
  · exact k r _ (hp.rev 0 m) (by walk_at "O") (by walk_at "O") u
theorem descPart_ok (O : LtOk lt) {m : Nat} {p : Array Nat} {P : Nat × Array Nat → Prop} (hp : PR n p) (h1 : 1 ≤ m) (h2 : m + 1 ≤ n) (d : Dn lt p (m + 1)) (k : ∀ r p', PR n p' → 1 ≤ r → r ≤ n → Up lt p' r → P (r, p')) : Tw lt n (kas_descPart m n p) P := by
  refine Tw.bind (desc_ok O (Nat.le_refl _) (n - (m + 1)) p (m + 1) 0 hp (by walk_at "O") (by walk_at "O") (by walk_at "O") d (fun i h3 h4 => ?_) fun p' m' q' x1 x2 x3 x4 x5 x6 => ?_)
  · have : i = m := by walk_at "O"
    subst this
    rw [show i + 1 - 1 = i by walk_at "O"]; exact O.irr _
  · show Tw lt n (if q' > 0 then kas_tail3 m' n (kas_rev p' (m' - (q' + 1)) m') else kas_tail3 m' n p') P
    by_cases hq : q' > 0
    · rw [if_pos hq]
      exact tail3_ok O (x1.rev _ _) (by walk_at "O") (by walk_at "O") (rev_alike O (by have := x1.size; (first | lia | omega)) x4 x5 x6).1 k
    · rw [if_neg hq]
      exact tail3_ok O x1 (by walk_at "O") (by walk_at "O") x5 k
theorem count_ok (O : LtOk lt) {p : Array Nat} {P : Nat × Array Nat → Prop} (hp : PR n p) (h1 : 1 ≤ n) (k : ∀ r p', PR n p' → 1 ≤ r → r ≤ n → Up lt p' r → P (r, p')) : Tw lt n (kas_count n p) P := by
  have hs := hp.size
  refine Tw.bind (asc_ok O hp (n - 1) 1 (Nat.le_refl _) (by walk_at "O") (fun i j hij hj => ?_) fun m h3 h4 u c => ?_)
  · have : i = j := by walk_at "O"
    subst this; exact O.irr _
  · show Tw lt n (if (m == n) = true then .ret (m, p) else if m > 1 then .ask (p.getD 0 0) (p.getD (m - 1) 0) (fun c => if c = true then .ret (m, p) else kas_descPart m n (kas_rev p 0 m)) else kas_descPart m n p) P
    by_cases hmn : m = n
    · rw [if_pos (by simpa using hmn)]
      exact k m p hp h3 (by walk_at "O") u
    · rw [if_neg (by simpa using hmn)]
      have c := c (by walk_at "O")
      by_cases hm : m > 1
      · rw [if_pos hm]
        refine ⟨hp.inR (by walk_at "O"), hp.inR (by walk_at "O"), ?_⟩
        show Tw lt n (if lt (at0 p 0) (at0 p (m - 1)) = true then _ else _) P
        cases c2 : lt (at0 p 0) (at0 p (m - 1)) with
        | true => rw [if_pos rfl]; exact k m p hp h3 (by walk_at "O") u
        | false =>
          rw [if_neg (by simp)]
          have all : ∀ i j, i < m → j < m → lt (at0 p i) (at0 p j) = false := fun i j hi hj =>
            O.tr _ (at0 p 0) _ (O.tr _ (at0 p (m - 1)) _ (u j (m - 1) (by walk_at "O") (by walk_at "O")) c2) (u 0 i (by walk_at "O") hi)
          refine descPart_ok O (hp.rev 0 m) h3 (by walk_at "O") (fun i j hij hj => ?_) k
          have hr : ∀ i, i < m → ∃ i', i' < m ∧ at0 (kas_rev p 0 m) i = at0 p i' := fun i hi => ⟨0 + (m - 1 - i), by walk_at "O", by rw [rev_at (by walk_at "O"), if_pos (by walk_at "O")]⟩
          by_cases z : j < m
          · obtain ⟨i', a1, a2⟩ := hr i (by walk_at "O")
            obtain ⟨j', b1, b2⟩ := hr j z
            rw [a2, b2]; exact all _ _ a1 b1
          · have : j = m := by walk_at "O"
            subst this
            by_cases z2 : i = j
            · subst z2; exact O.irr _
            · obtain ⟨i', a1, a2⟩ := hr i (by walk_at "O")
              rw [a2, rev_at (by walk_at "O"), if_neg (by walk_at "O")]
              exact O.tr _ (at0 p (j - 1)) _ (O.asy _ _ c) (all _ _ a1 (by walk_at "O"))
      · rw [if_neg hm]
        have : m = 1 := by walk_at "O"
        subst this
        refine descPart_ok O hp h3 (by walk_at "O") (fun i j hij hj => ?_) k
        by_cases z2 : i = j
        · subst z2; exact O.irr _
        · have e1 : i = 0 := by walk_at "O"
          have e2 : j = 1 := by walk_at "O"
          subst e1; subst e2
          exact O.asy _ _ c
theorem place_ok (O : LtOk lt) {p : Array Nat} {k : Nat} (hp : PR n p) (hk : k < n) (u : Up lt p k) : ∀ (f l r : Nat) {P : Nat → Prop}, r - l ≤ f → l ≤ r → r ≤ k → (∀ i, i < l → lt (at0 p k) (at0 p i) = false) → (∀ i, r ≤ i → i < k → lt (at0 p k) (at0 p i) = true) →
    (∀ l, l ≤ k → (∀ i, i < l → lt (at0 p k) (at0 p i) = false) → (∀ i, l ≤ i → i < k → lt (at0 p k) (at0 p i) = true) → P l) → Tw lt n (kas_place p k f l r) P
  | 0, l, r, P, hf, h1, h2, a, b, kk => by
    have : l = r := by walk_at "O"
    subst this
    exact kk l h2 a b
  | f + 1, l, r, P, hf, h1, h2, a, b, kk => by
    show Tw lt n (if l ≥ r then .ret l else .ask (p.getD k 0) (p.getD ((l + r) / 2) 0) fun c => if c = true then kas_place p k f l ((l + r) / 2) else kas_place p k f ((l + r) / 2 + 1) r) P
    by_cases h : l ≥ r
    · rw [if_pos h]
      have : l = r := by walk_at "O"
      subst this
      exact kk l h2 a b
    · rw [if_neg h]
      refine ⟨hp.inR hk, hp.inR (by walk_at "O"), ?_⟩
      show Tw lt n (if lt (at0 p k) (at0 p ((l + r) / 2)) = true then _ else _) P
      cases c : lt (at0 p k) (at0 p ((l + r) / 2)) with
      | true =>
        rw [if_pos rfl]
        refine place_ok O hp hk u f l _ (by walk_at "O") (by walk_at "O") (by walk_at "O") a (fun i h3 h4 => ?_) kk
        cases z : lt (at0 p k) (at0 p i) with
        | true => rfl
        | false =>
          have := O.tr _ _ _ (u _ _ h3 h4) z
          rw [c] at this; cases this
      | false =>
        rw [if_neg (by simp)]
        refine place_ok O hp hk u f _ r (by walk_at "O") (by walk_at "O") (by walk_at "O") (fun i h3 => ?_) b kk
        exact O.tr _ _ _ (u i ((l + r) / 2) (by walk_at "O") (by walk_at "O")) c
theorem bub_at {p : Array Nat} {k l : Nat} (hk : k < p.size) (hl : l ≤ k) (i : Nat) : at0 (bubble p k (k - l)) i = if i = l then at0 p k else if l < i ∧ i ≤ k then at0 p (i - 1) else at0 p i := by
  rw [at0_eq, getElem?_bubble hk (k - l) (by walk_at "O") i, show k - (k - l) = l by walk_at "O"]
  split
  · rw [at0_eq]
  · split
    · rw [at0_eq]
    · rw [at0_eq]
theorem bin_ok (O : LtOk lt) : ∀ (f : Nat) (p : Array Nat) (k : Nat) {P : Array Nat → Prop}, PR n p → k + f = n → Up lt p k → (∀ p', PR n p' → Up lt p' n → P p') → Tw lt n (kas_bin f p k) P
  | 0, p, k, P, hp, hk, u, kk => by
    have : k = n := by walk_at "O"
    subst this
    exact kk p hp u
  | f + 1, p, k, P, hp, hk, u, kk => by
    have hs := hp.size
    refine Tw.bind (place_ok O hp (by walk_at "O") u k 0 k (by walk_at "O") (by walk_at "O") (Nat.le_refl _) (fun i h => absurd h (Nat.not_lt_zero _)) (fun i h1 h2 => absurd h2 (by walk_at "O")) fun l hl a b => ?_)
    refine bin_ok O f _ (k + 1) (hp.bub _ _) (by walk_at "O") (fun i j hij hj => ?_) kk
    rw [bub_at (by walk_at "O") hl, bub_at (by walk_at "O") hl]
    by_cases z : i = j
    · subst z; exact O.irr _
    by_cases hjl : j = l
    · rw [if_pos hjl, if_neg (by walk_at "O"), if_neg (by walk_at "O")]
      exact a i (by walk_at "O")
    · rw [if_neg hjl]
      by_cases hj2 : l < j ∧ j ≤ k
      · rw [if_pos hj2]
        by_cases hil : i = l
        · rw [if_pos hil]
          exact O.asy _ _ (b (j - 1) (by walk_at "O") (by walk_at "O"))
        · rw [if_neg hil]
          by_cases hi2 : l < i ∧ i ≤ k
          · rw [if_pos hi2]; exact u _ _ (by walk_at "O") (by walk_at "O")
          · rw [if_neg hi2]; exact u _ _ (by walk_at "O") (by walk_at "O")
      · rw [if_neg hj2, if_neg (by walk_at "O"), if_neg (by walk_at "O")]
        exact u _ _ (by walk_at "O") (by walk_at "O")
theorem sort_ok (O : LtOk lt) (hn : 1 ≤ n) {P : Array Nat → Prop} (k : ∀ p, PR n p → Up lt p n → P p) : Tw lt n (kas_sort n) P := by
  refine Tw.bind (count_ok O ⟨by simp⟩ hn fun r p hp h1 h2 u => ?_)
  show Tw lt n (if r < n then kas_bin (n - max r 1) p (max r 1) else .ret p) P
  by_cases h : r < n
  · rw [if_pos h, show max r 1 = r by walk_at "O"]
    exact bin_ok O _ p r hp (by walk_at "O") u k
  · rw [if_neg h]
    have : r = n := by walk_at "O"
    subst this
    exact k p hp u
end
end Mine
namespace Mine

structure Row where
  mark : Int
  kind : PySem.Str
  detail : PySem.Str

noncomputable def sl (a b : PySem.Str) : Bool := decide (a.cps.toList < b.cps.toList)
theorem sl_irr (a : PySem.Str) : sl a a = false := by unfold sl; simp [List.lt_irrefl]
theorem sl_trans {a b c : PySem.Str} (h1 : sl a b = true) (h2 : sl b c = true) : sl a c = true := by
  unfold sl at *
  simp only [decide_eq_true_eq] at *
  exact List.lt_trans h1 h2
theorem sl_tri {a b : PySem.Str} (h1 : sl a b = false) (h2 : sl b a = false) : a = b := by
  unfold sl at *
  simp only [decide_eq_false_iff_not] at *
  have : a.cps.toList = b.cps.toList := by
    have h3 := List.not_lt.mp h1
    have h4 := List.not_lt.mp h2
    exact List.le_antisymm h4 h3
  cases a; cases b
  congr 1
  exact Array.toList_inj.mp this
noncomputable def lt3 (a b : Row) : Bool := decide (a.mark < b.mark) || (decide (a.mark = b.mark) && (sl a.kind b.kind || (decide (a.kind = b.kind) && sl a.detail b.detail)))
theorem lt3_iff {a b : Row} : lt3 a b = true ↔ a.mark < b.mark ∨ a.mark = b.mark ∧ (sl a.kind b.kind = true ∨ a.kind = b.kind ∧ sl a.detail b.detail = true) := by
  unfold lt3; simp
theorem lt3_irr (a : Row) : lt3 a a = false := by
  unfold lt3; simp [sl_irr]
theorem lt3_trans {a b c : Row} (h1 : lt3 a b = true) (h2 : lt3 b c = true) : lt3 a c = true := by
  rw [lt3_iff] at *
  rcases h1 with h1 | ⟨h1, h1'⟩
  · rcases h2 with h2 | ⟨h2, h2'⟩
    · exact .inl (by (first | lia | omega))
    · exact .inl (by (first | lia | omega))
  · rcases h2 with h2 | ⟨h2, h2'⟩
    · exact .inl (by (first | lia | omega))
    · refine .inr ⟨by (first | lia | omega), ?_⟩
      rcases h1' with h1' | ⟨h1', h1''⟩
      · rcases h2' with h2' | ⟨h2', h2''⟩
        · exact .inl (sl_trans h1' h2')
        · exact .inl (h2' ▸ h1')
      · rcases h2' with h2' | ⟨h2', h2''⟩
        · exact .inl (h1' ▸ h2')
        · exact .inr ⟨h1'.trans h2', sl_trans h1'' h2''⟩
theorem lt3_tri {a b : Row} (h1 : lt3 a b = false) (h2 : lt3 b a = false) : a = b := by
  have n1 : ¬ lt3 a b = true := by rw [h1]; simp
  have n2 : ¬ lt3 b a = true := by rw [h2]; simp
  rw [lt3_iff] at n1 n2
  have e1 : a.mark = b.mark := by
    by_cases x : a.mark < b.mark
    · exact absurd (.inl x) n1
    · by_cases y : b.mark < a.mark
      · exact absurd (.inl y) n2
      · (first | lia | omega)
  have e2 : a.kind = b.kind := by
    refine sl_tri ?_ ?_
    · cases x : sl a.kind b.kind with
      | false => rfl
      | true => exact absurd (.inr ⟨e1, .inl x⟩) n1
    · cases x : sl b.kind a.kind with
      | false => rfl
      | true => exact absurd (.inr ⟨e1.symm, .inl x⟩) n2
  have e3 : a.detail = b.detail := by
    refine sl_tri ?_ ?_
    · cases x : sl a.detail b.detail with
      | false => rfl
      | true => exact absurd (.inr ⟨e1, .inr ⟨e2, x⟩⟩) n1
    · cases x : sl b.detail a.detail with
      | false => rfl
      | true => exact absurd (.inr ⟨e1.symm, .inr ⟨e2.symm, x⟩⟩) n2
  cases a; cases b
  simp_all
theorem lt3_asy {a b : Row} (h : lt3 a b = true) : lt3 b a = false := by
  cases x : lt3 b a with
  | false => rfl
  | true => have := lt3_trans h x; rw [lt3_irr] at this; cases this
theorem le3_trans {a b c : Row} (h1 : lt3 b a = false) (h2 : lt3 c b = false) : lt3 c a = false := by
  cases x : lt3 c a with
  | false => rfl
  | true =>
    cases y : lt3 a b with
    | true => have := lt3_trans x y; rw [h2] at this; cases this
    | false =>
      have := lt3_tri y h1
      subst this
      rw [x] at h2; cases h2
noncomputable def rowAt (rs : List Row) (i : Nat) : Row := rs.getD i ⟨0, ⟨#[]⟩, ⟨#[]⟩⟩
theorem rows_lt (rs : List Row) : LtOk (fun i j => lt3 (rowAt rs i) (rowAt rs j)) := ⟨fun i j h => lt3_asy h, fun i j k h1 h2 => le3_trans h1 h2⟩

/-- what is sorted and holds the same rows is the same -/
theorem sorted_uniq : ∀ {l l' : List Row}, l.Perm l' → l.Pairwise (fun a b => lt3 b a = false) → l'.Pairwise (fun a b => lt3 b a = false) → l = l' := by
  intro l l' hp h1 h2
  exact hp.eq_of_pairwise (le := fun a b => lt3 b a = false) (fun a b _ _ h3 h4 => lt3_tri h4 h3) h1 h2
theorem perm_map {α : Type} {n : Nat} {p : List Nat} {f : Nat → α} {l : List α} (hp : p.Perm (List.range n)) (hl : l.length = n) (hf : ∀ i (h : i < n), f i = l[i]) : (p.map f).Perm l := by
  have e : (List.range n).map f = l := by
    apply List.ext_getElem
    · simp [hl]
    · intro i h3 h4
      simp at h3
      simp [hf i h3]
  rw [← e]
  exact hp.map f
theorem up_pairwise {n : Nat} {p : Array Nat} {rs : List Row} (hs : p.size = n) (u : Up (fun i j => lt3 (rowAt rs i) (rowAt rs j)) p n) : (p.toList.map (rowAt rs)).Pairwise (fun a b => lt3 b a = false) := by
  rw [List.pairwise_iff_getElem]
  intro i j hi hj hij
  simp at hi hj
  have := u i j (by (first | lia | omega)) (by (first | lia | omega))
  rw [at0_eq, at0_eq, Array.getElem?_eq_getElem hi, Array.getElem?_eq_getElem hj] at this
  simpa using this
end Mine
namespace Mine
variable {prog : Program} {w : World} {K : Frag} {F : Fm} {σ : Store} {m : Loc}

/-! rows in a heap, and in a store -/
inductive RowsH (h : Heap) : List Value → List Row → Prop
  | nil : RowsH h [] []
  | cons {a : Addr} {o : Obj} {n : Nat} {t u v : Tok} {r : Row} {vs rs} : h.get? a = some o → o.cls = .type "tuple" → o.data = .seq #[.int r.mark t, .str r.kind u, .str r.detail v] n → RowsH h vs rs → RowsH h (.ref a :: vs) (r :: rs)
inductive RowsA (σ : Store) : List AV → List Row → Prop
  | nil : RowsA σ [] []
  | cons {a : Addr} {r : Row} {xs rs} : σ a = some (.tup [.int r.mark, .str r.kind, .str r.detail]) → RowsA σ xs rs → RowsA σ (.ref a :: xs) (r :: rs)
theorem RowsA.toH {fr : List (Addr × Obj)} {h : Heap} (S : St prog w F fr σ m h) {xs : List AV} {vs : List Value} {rs : List Row} (q : VRs xs vs) (H : RowsA σ xs rs) : RowsH h vs rs := by
  induction H generalizing vs with
  | nil => cases q; exact .nil
  | cons e _ ih =>
    cases q with
    | cons r q =>
      cases r
      obtain ⟨ro, hg, rr⟩ := S.at e
      cases rr with
      | tup n rr =>
        obtain ⟨u, v, z, rfl, h1, h2, h3⟩ := three_args rr
        cases h1; cases h2; cases h3
        exact .cons hg rfl rfl (ih q)
theorem RowsH.kept {h h' : Heap} (k : ∀ b o, h.get? b = some o → h'.get? b = some o) {vs : List Value} {rs : List Row} (x : RowsH h vs rs) : RowsH h' vs rs := by
  induction x with
  | nil => exact .nil
  | cons h1 h2 h3 _ ih => exact .cons (k _ _ h1) h2 h3 ih
theorem RowsH.length {h : Heap} {vs : List Value} {rs : List Row} (x : RowsH h vs rs) : vs.length = rs.length := by
  induction x with
  | nil => rfl
  | cons _ _ _ _ ih => rw [List.length_cons, List.length_cons, ih]
theorem RowsH.get {h : Heap} : ∀ {vs : List Value} {rs : List Row}, RowsH h vs rs → ∀ i, i < vs.length → ∃ a o n t u v, vs.getD i .none = .ref a ∧ h.get? a = some o ∧ o.cls = .type "tuple" ∧ o.data = .seq #[.int (rowAt rs i).mark t, .str (rowAt rs i).kind u, .str (rowAt rs i).detail v] n
  | _, _, .nil, i, hi => absurd hi (Nat.not_lt_zero _)
  | _, _, .cons h1 h2 h3 x, 0, hi => ⟨_, _, _, _, _, _, rfl, h1, h2, h3⟩
  | _, _, .cons h1 h2 h3 x, i + 1, hi => by
    obtain ⟨a, o, n, t, u, v, e1, e2, e3, e4⟩ := x.get i (by simpa using hi)
    exact ⟨a, o, n, t, u, v, by simpa using e1, e2, e3, by simpa [rowAt] using e4⟩

theorem tw_wp {α : Type} {lt : Nat → Nat → Bool} {n : Nat} {cmp : Nat → Nat → (Bool → Shared → Prop) → Shared → Prop} {s : Shared} {P : α → Prop} {Q : α → Shared → Prop} (hc : ∀ i j C, i < n → j < n → C (lt i j) s → cmp i j C s) (hq : ∀ a, P a → Q a s) : ∀ {t : KasT α}, Tw lt n t P → t.kasWp cmp Q s
  | .ret a, h => hq a h
  | .ask i j k, h => hc i j _ h.1 h.2.1 (tw_wp hc hq h.2.2)

section
variable {A : Around} {s : Shared} {E : Value → Shared → Prop}
theorem ask_rows {vs : List Value} {rs : List Row} (H : RowsH s.heap vs rs) {i j : Nat} (hi : i < vs.length) (hj : j < vs.length) {C : Bool → Shared → Prop} (h : C (lt3 (rowAt rs i) (rowAt rs j)) s) : kas_ask prog w A (tuples' true) vs i j C s := by
  unfold kas_ask
  obtain ⟨a, oa, na, ta, ua, va, e1, e2, e3, e4⟩ := H.get i hi
  obtain ⟨b, ob, nb, tb, ub, vb, f1, f2, f3, f4⟩ := H.get j hj
  rw [e1, f1]
  refine kat_lt e2 e4 f2 f4 ?_
  show KatLex prog w A true _ C [(_, _), (_, _), (_, _)] 0 s
  refine kat_cons (SeqAt.EqAt.int_int _ _ _ _ prog w _ _ ?_)
  refine kat_go (fun he => kat_yes ?_) (fun he => kat_no ?_)
  · have em : (rowAt rs i).mark = (rowAt rs j).mark := by simpa using he
    refine kat_cons (SeqAt.EqAt.str_str _ _ _ _ prog w _ _ ?_)
    refine kat_go (fun he => kat_yes ?_) (fun he => kat_no ?_)
    · have ek : (rowAt rs i).kind = (rowAt rs j).kind := by simpa using he
      refine kat_cons (SeqAt.EqAt.str_str _ _ _ _ prog w _ _ ?_)
      refine kat_go (fun he => kat_yes ?_) (fun he => kat_no ?_)
      · have ed : (rowAt rs i).detail = (rowAt rs j).detail := by simpa using he
        refine kat_nil ?_
        have : lt3 (rowAt rs i) (rowAt rs j) = false := by
          have : rowAt rs i = rowAt rs j := by
            cases x : rowAt rs i; cases y : rowAt rs j
            rw [x, y] at em ek ed
            simp_all
          rw [this]; exact lt3_irr _
        rw [this] at h
        simpa using h
      · show wpAny _ _ (oneLt' false _ _) C _ s
        refine kat_one _ _ (lt_str ?_)
        have : lt3 (rowAt rs i) (rowAt rs j) = sl (rowAt rs i).detail (rowAt rs j).detail := by
          unfold lt3
          simp [em, ek, sl_irr]
        rw [this] at h
        exact h
    · have ek : (rowAt rs i).kind ≠ (rowAt rs j).kind := by simpa using he
      show wpAny _ _ (oneLt' false _ _) C _ s
      refine kat_one _ _ (lt_str ?_)
      have : lt3 (rowAt rs i) (rowAt rs j) = sl (rowAt rs i).kind (rowAt rs j).kind := by
        unfold lt3
        simp [em, ek]
      rw [this] at h
      exact h
  · have em : (rowAt rs i).mark ≠ (rowAt rs j).mark := by simpa using he
    show wpAny _ _ (oneLt' true _ _) C _ s
    refine oneLt_int ?_
    have : lt3 (rowAt rs i) (rowAt rs j) = decide ((rowAt rs i).mark < (rowAt rs j).mark) := by
      unfold lt3
      simp [em]
    rw [this] at h
    exact h
theorem rows_tups {h : Heap} {vs : List Value} {rs : List Row} (H : RowsH h vs rs) : ∃ fs, KatTups h vs fs ∧ fs.length = vs.length ∧ ∀ v ∈ fs, ∃ i t, v = Value.int i t := by
  induction H with
  | nil => exact ⟨[], .nil, rfl, fun v hv => nomatch hv⟩
  | cons h1 h2 h3 _ ih =>
    obtain ⟨fs, a, b, c⟩ := ih
    refine ⟨_ :: fs, KatTups.cons h1 h2 h3 rfl a, by simp [b], fun v hv => ?_⟩
    rcases List.mem_cons.mp hv with rfl | hv
    · exact ⟨_, _, rfl⟩
    · exact c v hv
theorem kind_rows {M : Model} {vs : List Value} {rs : List Row} (H : RowsH s.heap vs rs) (hn : 0 < vs.length) {Q : SortKind → Shared → Prop} (h : Q (tuples' true) s) : wpAny M A (keyKind' vs.toArray) Q E s := by
  obtain ⟨fs, t, hl, hi⟩ := rows_tups H
  exact kat_kind t (by (first | lia | omega)) (T := .type "int") (fun v hv => by obtain ⟨i, t, rfl⟩ := hi v hv; exact Looks.of_pure rfl) (by decide) h
end

/-- the sorted copy's items and rows -/
structure Srt (σ : Store) (rs : List Row) (ys : List AV) (rs' : List Row) : Prop where
  rows : RowsA σ ys rs'
  perm : rs'.Perm rs
  ord : rs'.Pairwise (fun a b => lt3 b a = false)
theorem RowsA.length {xs : List AV} {rs : List Row} (h : RowsA σ xs rs) : xs.length = rs.length := by
  induction h with
  | nil => rfl
  | cons _ _ ih => rw [List.length_cons, List.length_cons, ih]
theorem RowsA.get {xs : List AV} {rs : List Row} (h : RowsA σ xs rs) : ∀ i, i < xs.length → ∃ a, xs.getD i .none = .ref a ∧ σ a = some (.tup [.int (rowAt rs i).mark, .str (rowAt rs i).kind, .str (rowAt rs i).detail]) := by
  induction h with
  | nil => intro i hi; exact absurd hi (Nat.not_lt_zero _)
  | cons e _ ih =>
    intro i hi
    cases i with
    | zero => exact ⟨_, rfl, e⟩
    | succ i =>
      obtain ⟨a, e1, e2⟩ := ih i (by simpa using hi)
      exact ⟨a, by simpa using e1, by simpa [rowAt] using e2⟩
theorem RowsA.pick {xs : List AV} {rs : List Row} (h : RowsA σ xs rs) : ∀ p : List Nat, (∀ i ∈ p, i < xs.length) → RowsA σ (p.map fun i => xs.getD i .none) (p.map (rowAt rs))
  | [], _ => .nil
  | i :: p, hp => by
    obtain ⟨a, e1, e2⟩ := h.get i (hp i (.head _))
    rw [List.map_cons, List.map_cons, e1]
    exact .cons e2 (h.pick p fun j hj => hp j (.tail _ hj))
theorem VRs.pick {xs : List AV} {vs : List Value} (h : VRs xs vs) : ∀ p : List Nat, (∀ i ∈ p, i < xs.length) → VRs (p.map fun i => xs.getD i .none) (p.map fun i => vs.getD i .none)
  | [], _ => .nil
  | i :: p, hp => by
    have hi := hp i (.head _)
    have e : xs[i]? = some (xs.getD i .none) := by simp [List.getElem?_eq_getElem hi]
    obtain ⟨v, e1, r⟩ := h.get e
    rw [List.map_cons, List.map_cons]
    refine .cons ?_ (h.pick p fun j hj => hp j (.tail _ hj))
    have : vs.getD i .none = v := by simp [e1]
    rw [this]; exact r
theorem srt_of {xs : List AV} {vs : List Value} {rs : List Row} (H : RowsA σ xs rs) (r : VRs xs vs) {p : Array Nat} (hp : PR xs.length p) (u : Up (fun i j => lt3 (rowAt rs i) (rowAt rs j)) p xs.length) :
    ∃ ys rs', Srt σ rs ys rs' ∧ VRs ys (p.toList.map fun i => vs.getD i .none) ∧ ys.length = xs.length := by
  have hin : ∀ i ∈ p.toList, i < xs.length := fun i hi => by simpa using hp.perm.mem_iff.mp hi
  refine ⟨_, _, ⟨H.pick _ hin, ?_, up_pairwise hp.size u⟩, r.pick _ hin, by simp [hp.size]⟩
  refine perm_map hp.perm H.length.symm fun i h => ?_
  have : i < rs.length := by rw [← H.length]; exact h
  simp [rowAt, this]

theorem b_sorted {l : Addr} {xs : List AV} {rs : List Row} {Q : AV → Store → Prop} (hl : σ l = some (.list xs)) (H : RowsA σ xs rs) (h2 : 2 ≤ rs.length) (h64 : rs.length < 64) (h : ∀ D ys rs', σ D = none → Srt σ rs ys rs' → Q (.ref D) (upd σ D (.list ys))) : CallB prog w F σ m "sorted" [.ref l] Q := by
  intro vs r₀ fr s Q' E S k
  obtain ⟨u, rfl, ru⟩ := one_arg r₀
  cases ru
  obtain ⟨us, r, hL⟩ := S.isList hl
  have hxl := H.length
  have hul := r.length
  obtain ⟨mh, own, nr, news, F', N, g2, g3, gb, g4⟩ := id S
  have hmod : ∃ p ∈ news, sysModules < p.1 := by
    obtain ⟨ro, hm, _⟩ := g3 l _ hl
    exact ⟨_, hm, g4 l _ hl⟩
  refine kat_sorted F' N hL (by (first | lia | omega)) (by (first | lia | omega)) fun D e1 h' F₂ N₂ hlow => ?_
  obtain ⟨p₀, hp₀, hp1⟩ := hmod
  have hD : sysModules < D := Nat.lt_trans hp1 (hlow _ hp₀)
  have S₂ : St prog w F fr σ m h' := ⟨mh, own, nr, news, F₂, fun p hp => N₂ p (.tail _ hp), g2, g3, gb, g4⟩
  have HH : RowsH h' us rs := RowsA.toH S₂ r H
  refine kind_rows (s := { s with heap := h' }) HH (by (first | lia | omega)) ?_
  have T := sort_ok (n := us.length) (rows_lt rs) (by (first | lia | omega)) (P := fun p => PR us.length p ∧ Up (fun i j => lt3 (rowAt rs i) (rowAt rs j)) p us.length) fun p a b => ⟨a, b⟩
  refine tw_wp (n := us.length) (lt := fun i j => lt3 (rowAt rs i) (rowAt rs j)) (fun i j C hi hj hC => ask_rows (s := { s with heap := h' }) HH hi hj hC) (fun p hp => ?_) T
  rw [hul] at hp
  obtain ⟨ys, rs', sr, ry, hylen⟩ := srt_of H r hp.1 hp.2
  refine KasFin.intro F₂ N₂ (.head fun p hp => Nat.ne_of_lt (hlow p hp)) fun h₃ c F₃ N₃ => ?_
  obtain ⟨fresh, cc⟩ := Co.closeAt g2 g3 gb g4 F₃ N₃ hlow hD (OR.list (prog := prog) (w := w) c ry)
  exact k _ _ h₃ s.toks _ (.ref D) ⟨mh, own, nr, cc⟩ (h D ys rs' fresh sr)

end Mine
namespace Mine
variable {prog : Program} {w : World} {K : Frag} {F : Fm} {σ : Store} {m : Loc}

/-- a hidden object opened -/
theorem Co.openFr {h₀ : Heap} {L : Addr} {mh : PySem.Str → Option Value} {fr₁ fr₂ : List (Addr × Obj)} {h : Heap} {a : Addr} {o : Obj} (S : Co prog w h₀ L mh (fr₁ ++ (a, o) :: fr₂) σ h) (hn : ∀ p ∈ fr₁ ++ fr₂, p.1 ≠ a) :
    ∃ rest, Fr h₀ L h mh ∧ News h₀ L h ((a, o) :: rest) ∧ (∀ p ∈ rest, p.1 ≠ a) ∧ ∀ h' o', Fr h₀ L h' mh → News h₀ L h' ((a, o') :: rest) → Co prog w h₀ L mh (fr₁ ++ (a, o') :: fr₂) σ h' := by
  obtain ⟨news, F', N, h2, h3, hb, h4⟩ := S
  have ha := h2 (a, o) (by simp)
  refine ⟨news.filter (fun p => p.1 != a), F', fun p hp => ?_, fun p hp => by simpa using (List.mem_filter.mp hp).2, fun h' o' F₂ N₂ => ⟨_, F₂, N₂, fun p hp => ?_, fun b o₂ eb => ?_, hb, h4⟩⟩
  · rcases List.mem_cons.mp hp with rfl | hp
    · exact N _ ha.1
    · exact N _ (List.mem_filter.mp hp).1
  · rcases List.mem_append.mp hp with q | q
    · have z := h2 p (List.mem_append_left _ q)
      exact ⟨.tail _ (List.mem_filter.mpr ⟨z.1, by simpa using hn p (List.mem_append_left _ q)⟩), z.2⟩
    · rcases List.mem_cons.mp q with rfl | q
      · exact ⟨.head _, ha.2⟩
      · have z := h2 p (List.mem_append_right _ (.tail _ q))
        exact ⟨.tail _ (List.mem_filter.mpr ⟨z.1, by simpa using hn p (List.mem_append_right _ q)⟩), z.2⟩
  · obtain ⟨ro₂, hm₂, r₂⟩ := h3 _ _ eb
    have hne : b ≠ a := fun q => by have := ha.2; rw [← q] at this; rw [show (σ b) = none from this] at eb; cases eb
    exact ⟨ro₂, .tail _ (List.mem_filter.mpr ⟨hm₂, by simpa using hne⟩), r₂⟩

/-- the same frame, two built-ins below -/
noncomputable abbrev Fm.in2 (F : Fm) : Fm := ⟨{ F.C with A := F.C.A.in1.in1, d := F.C.d - 1 }, F.env, F.NR⟩
theorem Fm.Ok.in2 (O : F.Ok K) (hd : 1 ≤ F.C.d) : F.in2.Ok K where
  B := O.B
  X := O.X
  T := O.T
  hh := O.hh
  hf := O.hf
  hL := O.hL
  hke := O.hke
  hd := by
    have := O.hd
    show F.C.A.depth + 2 * (F.C.d - 1) < recursionLimit
    (first | lia | omega)
  hu := by
    have := O.hu
    show F.C.A.units + 1 + 1 + 20 * (F.C.d - 1) + 20 < cLine
    (first | lia | omega)
  gl := O.gl
  bl := O.bl
  ek := O.ek
  mono := O.mono

/-- a lambda called -/
theorem code_lam {f c' : Addr} {name qual : PySem.Str} {params : Arguments} {body : PySem.Expr} {scope : Scope} {pm ctv : Value} {as : List AV} {Q : AV → Store → Prop} (xs : List PySem.Str)
    (O : F.Ok K) (hd : 1 ≤ F.C.d) (hcode : σ c' = some (.code qual))
    (hb : ∀ vs : List Value, vs.length = xs.length → bindArgs (kla_fn name qual params body scope [] pm (.ref c') ctv) ⟨vs, []⟩ = pure (xs.zip vs))
    (hn : as.length = xs.length) (hnd : xs.Nodup) (hl : (xs.all fun x => scope.names.lookup x == some .local) = true) (hcell : (scope.names.all fun x => x.2 != .cell) = true)
    (h1 : scope.isCoroutine = false) (h2 : scope.isGenerator = false) (h3 : scope.kind = .function)
    (h : ∀ c : Fn, (c.fm scope none).Ok K → c.C.d + 1 = F.C.d → Ev prog w (c.fm scope none) σ (xs.zip as) body Q)
    {vs : List Value} (rs : VRs as vs) {fr : List (Addr × Obj)} {s : Shared} {R : Result → Shared → Prop} (S : St prog w F fr σ m s.heap) (hf : (f, kla_obj name qual params body scope [] pm c' ctv) ∈ fr)
    (k : ∀ x y h' tk σ', VR y x → St prog w F fr σ' m h' → Q y σ' → R (.ok (.ret x)) { s with heap := h', toks := tk }) : codeAny (model prog w) F.C.A (.call (.ref f) ⟨vs, []⟩) R s := by
  obtain ⟨mh, own, n, news, F', N, S2, S3, Sb, S4⟩ := id S
  have hlen : vs.length = xs.length := rs.length.trans hn
  have hkeys := zip_keys hlen.symm
  have hrec : s.heap.CodeRec (.ref c') qual := by
    obtain ⟨ro, hg, r⟩ := S.at hcode
    cases r with
    | code _ t e1 e2 => exact ⟨c', ro, _, t, rfl, hg, e1, e2⟩
  refine kla_code (Below.mk O.B.stack O.B.stays O.B.frames) F' O.X N O.T O.hf O.hL O.hke (S2 _ (List.mem_append_right _ hf)).1 hrec (by have := O.hd; (first | lia | omega)) (hb vs hlen) ?_ ?_ h1 h2 h3 ?_
  · intro y hy
    have : y.1 ∈ xs := hkeys ▸ List.mem_map.mpr ⟨y, hy, rfl⟩
    simpa using List.all_eq_true.mp hl _ this
  · intro g L' h₁ Fg F₁ N₁ B X T
    let c : Fn := ⟨⟨g, F.C.base, L', F.C.A.deeper (envX qual scope L' f (.ref c') []), F.C.A, F.C.fe :: F.C.outer, envX qual scope L' f (.ref c') [], F.C.p, F.C.loose, F.C.mean, F.C.mg, F.C.mb, F.C.d - 1⟩, qual, f, .ref c'⟩
    have Oc : (c.fm scope none).Ok K := Fm.Ok.inner (q := qual) (f := f) (cd := .ref c') (sc := scope) (cl := none) (L' := L') O hd h3 B X T
    refine h c Oc (by show F.C.d - 1 + 1 = F.C.d; (first | lia | omega)) (own ++ fr) ⟨h₁, _, _, _, _⟩ _ _ ?_ ?_
    · refine ⟨_, [], ⟨⟨rfl, fun y v e => ?_⟩, fun p hp => nomatch hp⟩, news, F₁, N₁, S2, S3, Nat.lt_of_lt_of_le Sb (Fr.sz Fg), S4⟩
      obtain ⟨u, a, b⟩ := get_zip rs e
      exact ⟨u, lookup_rev (by rw [hkeys]; exact hnd) a, b⟩
    · intro x a h' tk σ' r S' q
      obtain ⟨mh', own', n', news', F₂, N₂, T2, T3, Tb, T4⟩ := S'
      refine leaveK_ F₂ N₂ fun F₃ N₃ => ?_
      have S₃ : St prog w F fr σ' m h' := ⟨mh, own, n, news', F₃, N₃, fun p hp => T2 p (List.mem_append_right _ hp), T3, Sb, T4⟩
      exact k _ _ h' tk σ' r S₃ q
  · intro x hx
    simpa using List.all_eq_true.mp hcell x hx

/-! the sort by a key, for lists of any length below 64: the library's steps, the end left open -/
section
variable {A : Around} {E : Value → Shared → Prop} {s : Shared} {h₀ : Heap} {L a kS l : Addr} {m : PySem.Str → Option Value} {news : List (Addr × Obj)} {vs : List Value}
theorem ks_rest {f : Value} {e1 : Nat} {P : PySem.Fin → Shared → Prop} (hk : s.heap.get? kS = some (seqObj "list" #[] 0)) (h64 : vs.length < 64)
    (h : KatKeys prog w A h₀ L m kS f (fun ks e s' => ks.length = vs.length → wpAny (model prog w) A (ksk_end a false vs.toArray e1 (.ref kS) (List.toArray ks)) P E s') vs [] 0 s) :
    wpAny (model prog w) A (ksk_rest a f false vs.toArray e1 (.ref kS)) P E s := by
  unfold ksk_rest
  refine wpAny_bind (wpAny_rule ?_)
  first
    | rw [List.forIn_toArray]
    | (rw [← Array.forIn_toList]; simp only [List.toList_toArray])
    | rw [← Array.forIn_toList]
  refine wpAny_bind (wpAny_mono (kat_fold h64 (fun x ks e s' C hz hx => ?_) vs [] 0 s (by simp) hk h) (fun _ s' hd => ?_) fun _ _ x => x)
  · refine wpAny_bind (wpAny_attempt (wpAny_mono hx (fun k s'' hk => ?_) fun _ _ hF => hF.elim))
    obtain ⟨news', g, F', N', U, c⟩ := hk
    obtain ⟨pre, post, e0, hg, x1, x2⟩ := U.split
    rw [e0] at N'
    have nk := N' (kS, seqObj "list" (List.toArray ks) e) (List.mem_append_right _ (.head _))
    have s1 := Heap.SameBut.update s''.heap kS (Obj.mapSeq (·.push k))
    have ea : (List.toArray ks).push k = List.toArray (ks ++ [k]) := by simp
    obtain ⟨c2, hc2⟩ : ∃ c2, (s''.heap.update kS (Obj.mapSeq (·.push k))).get? kS = some (seqObj "list" (List.toArray (ks ++ [k])) c2) := ⟨_, by rw [← ea]; exact get?_update_seq nk.1 (·.push k)⟩
    try dsimp only
    refine wpAny_bind (listUpdate_at nk.1 rfl ?_ (by rw [List.size_toArray, sizeLine_eq]; (first | lia | omega)) (Nat.le_trans (Nat.le_of_eq (Array.size_push ..)) (by rw [List.size_toArray, sizeLine_eq]; (first | lia | omega))))
    exact wpAny_pure ⟨rfl, k, c2, hc2, c _ c2 (kas_fr F' s1 nk.2.1 nk.2.2) (by rw [hg]; exact news_set N' x1 x2 s1 hc2)⟩
  · obtain ⟨ks, e, hk', hl, fin⟩ := hd
    try dsimp only
    exact wpAny_bind (listItems_at hk' rfl (fin hl))
theorem ks_keyed {f : Value} {n : Nat} {P : PySem.Fin → Shared → Prop} (F : Fr h₀ L s.heap m) (N : News h₀ L s.heap news) (ho : s.heap.get? a = some (seqObj "list" vs.toArray n)) (haL : a ≠ L) (ha0 : h₀.get? a = none) (hna : ∀ p ∈ news, p.1 ≠ a)
    (h64 : vs.length < 64)
    (h : ∀ kS e1 h', Fr h₀ L h' m → News h₀ L h' ((kS, seqObj "list" #[] 0) :: (a, seqObj "list" #[] e1) :: news) → a < kS → (∀ q ∈ news, q.1 < kS) →
      KatKeys prog w A h₀ L m kS f (fun ks e s' => ks.length = vs.length → wpAny (model prog w) A (ksk_end a false vs.toArray e1 (.ref kS) (List.toArray ks)) P E s') vs [] 0 { s with heap := h' }) :
    wpAny (model prog w) A (ksk_tree a f false) P E s := by
  have ha : a < s.heap.objs.size := Heap.lt_size ho
  have s1 := Heap.SameBut.update s.heap a (Obj.mapSeq fun _ => (#[] : Array Value))
  obtain ⟨e1, ho1⟩ : ∃ e1, (s.heap.update a (Obj.mapSeq fun _ => (#[] : Array Value))).get? a = some (seqObj "list" #[] e1) := ⟨_, get?_update_seq ho fun _ => #[]⟩
  have F1 := kas_fr F s1 haL ha0
  have N1 := kas_news N s1 hna
  have hkS : ((s.heap.update a (Obj.mapSeq fun _ => (#[] : Array Value))).push (seqObj "tuple" vs.toArray 0)).objs.size = s.heap.objs.size + 1 := by rw [size_push', Heap.size_update]
  have hLk : L < ((s.heap.update a (Obj.mapSeq fun _ => (#[] : Array Value))).push (seqObj "tuple" vs.toArray 0)).objs.size := (F1.push _).ns.lt
  unfold ksk_tree
  refine wpAny_bind (listItems_at ho rfl ?_)
  refine wpAny_bind (listUpdate_at ho rfl ?_ (by rw [List.size_toArray, sizeLine_eq]; (first | lia | omega)) (Nat.zero_le _))
  refine wpAny_bind (seqEpoch_at ho1 rfl ?_)
  refine wpAny_bind (wpAny_newTuple ?_ (by show vs.length ≤ _; rw [sizeLine_eq]; (first | lia | omega)))
  refine wpAny_bind (wpAny_newList ?_ (Nat.zero_le _))
  refine wpAny_holding ?_
  refine ks_rest (h₀ := h₀) (L := L) (m := m) (s := { s with heap := ((s.heap.update a (Obj.mapSeq fun _ => (#[] : Array Value))).push (seqObj "tuple" vs.toArray 0)).push (seqObj "list" #[] 0) }) (kS := ((s.heap.update a (Obj.mapSeq fun _ => (#[] : Array Value))).push (seqObj "tuple" vs.toArray 0)).objs.size)
    (Heap.get?_push_size _ rfl) h64 (h _ e1 _ ((F1.push _).push _) (fun p hp => ?_) (by rw [hkS]; exact Nat.lt_succ_of_lt ha) fun q hq => by rw [hkS]; exact Nat.lt_succ_of_lt (Heap.lt_size (N q hq).1))
  rcases List.mem_cons.mp hp with rfl | hp
  · exact ⟨Heap.get?_push_size _ rfl, Nat.ne_of_gt hLk, Heap.get?_none_of_le (Nat.le_trans F.above (Nat.le_of_lt hLk))⟩
  · rcases List.mem_cons.mp hp with rfl | hp
    · exact ⟨Heap.get?_push_of_some _ (Heap.get?_push_of_some _ ho1), haL, ha0⟩
    · exact ⟨Heap.get?_push_of_some _ (Heap.get?_push_of_some _ (N1 p hp).1), (N1 p hp).2⟩
theorem ks_sorted {f : Addr} {Q : Value → Shared → Prop} (F : Fr h₀ L s.heap m) (N : News h₀ L s.heap news) (hl : s.heap.IsList l vs.toArray) (h64 : vs.length < 64)
    (h : ∀ D kS e1 h', Fr h₀ L h' m → News h₀ L h' ((kS, seqObj "list" #[] 0) :: (D, seqObj "list" #[] e1) :: news) → D < kS → (∀ q ∈ news, q.1 < D) →
      KatKeys prog w A.in1.in1 h₀ L m kS (.ref f) (fun ks e s' => ks.length = vs.length → wpAny (model prog w) A.in1.in1 (ksk_end D false vs.toArray e1 (.ref kS) (List.toArray ks)) (fun fin s4 => fin = .done (.ret .none) ∧ Q (.ref D) s4) (fun _ _ => False) s') vs [] 0 { s with heap := h' }) :
    wpAny (model prog w) A (call (.builtin "sorted") [.ref l] [(PySem.Str.ofString "key", .ref f)]) Q E s := by
  refine call_function_entry_kw kind_sorted plain_sorted entry_sorted (ksk_s1 _ _) ?_
  unfold Builtin.«sorted»
  refine wpAny_bind (m := checkCount "sorted" 1 1 _) (wpAny_pure ?_)
  refine wpAny_bind (collect_list hl ?_ (by rw [sizeLine_eq]; (first | lia | omega)))
  refine wpAny_bind (wpAny_newList ?_ (by rw [sizeLine_eq]; (first | lia | omega)))
  have hsz : ((s.heap.push (seqObj "list" #[] 0)).update s.heap.objs.size (Obj.mapSeq (· ++ vs.toArray))).objs.size = s.heap.objs.size + 1 := by
    rw [Heap.size_update, size_push']
  have hoL : (((s.heap.push (seqObj "list" #[] 0)).update s.heap.objs.size (Obj.mapSeq (· ++ vs.toArray))).push (seqObj "list" vs.toArray 0)).get? (s.heap.objs.size + 1) = some (seqObj "list" vs.toArray 0) := by
    rw [← hsz]; exact Heap.get?_push_size _ rfl
  have keep : ∀ b o, s.heap.get? b = some o → (((s.heap.push (seqObj "list" #[] 0)).update s.heap.objs.size (Obj.mapSeq (· ++ vs.toArray))).push (seqObj "list" vs.toArray 0)).get? b = some o := fun b o q => by
    have hlt : b < s.heap.objs.size := Heap.lt_size q
    rw [Heap.get?_push_ne _ _ _ (by rw [hsz]; exact Nat.ne_of_lt (Nat.lt_succ_of_lt hlt)), Heap.get?_update_ne _ _ _ _ (Nat.ne_of_lt hlt), Heap.get?_push_ne _ _ _ (Nat.ne_of_lt hlt)]
    exact q
  have hL : L < s.heap.objs.size := F.ns.lt
  show wpAny _ _ _ _ _ { s with heap := ((s.heap.push (seqObj "list" #[] 0)).update s.heap.objs.size (Obj.mapSeq (· ++ vs.toArray))).push (seqObj "list" vs.toArray 0) }
  rw [hsz]
  refine wpAny_bind (wpAny_holding (wpAny_call_entry_kw slot_list_sort ⟨_, hoL, rfl⟩ entry_list_sort ?body (ksk_l1 _ _)))
  case body =>
    show wpAny (model prog w) A.in1.in1 (Builtin.«list.sort» ⟨[.ref (s.heap.objs.size + 1)], [(PySem.Str.ofString "key", .ref f)]⟩) _ _ _
    rw [ksk_t1]
    refine ks_keyed (s := { s with heap := ((s.heap.push (seqObj "list" #[] 0)).update s.heap.objs.size (Obj.mapSeq (· ++ vs.toArray))).push (seqObj "list" vs.toArray 0) })
      (F.kept keep) (N.grown keep) hoL (Nat.ne_of_gt (Nat.lt_succ_of_lt hL)) (Heap.get?_none_of_le (Nat.le_trans F.above (Nat.le_succ_of_le (Nat.le_of_lt hL))))
      (fun p hp => Nat.ne_of_lt (Nat.lt_succ_of_lt (Heap.lt_size (N p hp).1))) h64 fun kS e1 h' F' N' l0 l1 => ?_
    refine kat_keys_mono (h _ kS e1 h' F' N' l0 fun q hq => Nat.lt_succ_of_lt (Heap.lt_size (N q hq).1)) fun ks e s' hl' hd hlen => ?_
    refine wpAny_mono (hd hlen) (fun fin s'' hk => ?_) fun _ _ x => x.elim
    obtain ⟨rfl, hq⟩ := hk
    exact ⟨_, rfl, wpAny_pure ⟨_, rfl, hq⟩⟩
/-- fewer than two items: nothing is asked -/
theorem ks_end_small {a kS : Addr} {ks : List Value} {e e1 : Nat} {P : PySem.Fin → Shared → Prop} (hl : ks.length = vs.length) (h2 : vs.length < 2)
    (h : KatFin h₀ L m kS a ks e e1 vs (fun s' => P (.done (.ret .none)) s') s) : wpAny (model prog w) A (ksk_end a false vs.toArray e1 (.ref kS) (List.toArray ks)) P E s := by
  have hn2 : vs.toArray.size < 2 := by rw [List.size_toArray]; (first | lia | omega)
  unfold ksk_end
  try dsimp only
  rw [if_neg (by simp), if_pos hn2, if_pos hn2]
  refine wpAny_bind (wpAny_pure ?_)
  refine wpAny_bind (wpAny_pure ?_)
  refine kat_tail (out := vs) ?_ (by (first | lia | omega)) (by (first | lia | omega)) rfl h
  show (((List.toArray ks).zip vs.toArray).map (·.2)) = vs.toArray
  apply Array.toList_inj.mp
  simp
  exact List.map_snd_zip (by (first | lia | omega))
end
end Mine
namespace Mine
variable {prog : Program} {w : World} {K : Frag} {F : Fm} {σ : Store} {m : Loc}

/-- the table of a function's inner code: untouched, or with the one lambda's code in it -/
noncomputable def TabOk (P : Addr) (lpos : Pos) (qual : PySem.Str) (σ : Store) : Prop :=
  σ P = some (.tab #[]) ∨ ∃ c', σ P = some (.tab #[rawInt lpos.line, rawInt lpos.col, .ref c']) ∧ σ c' = some (.code qual)
/-- σ' holds all that σ holds, but for P -/
noncomputable def Ext (P : Addr) (σ σ' : Store) : Prop := ∀ a o, a ≠ P → σ a = some o → σ' a = some o
theorem Ext.refl (P : Addr) (σ : Store) : Ext P σ σ := fun _ _ _ e => e
theorem Ext.trans {P : Addr} {σ₁ σ₂ σ₃ : Store} (h1 : Ext P σ₁ σ₂) (h2 : Ext P σ₂ σ₃) : Ext P σ₁ σ₃ := fun a o hn e => h2 a o hn (h1 a o hn e)

theorem lam_make {c : Fn} {sc : Scope} {ca P : Addr} {params : Arguments} {body : PySem.Expr} {scope : Scope} {lpos : Pos} {qual : PySem.Str} {fr : List (Addr × Obj)} {s : Shared} {Q : Value → Shared → Prop} {E : Value → Shared → Prop}
    (O : (c.fm sc none).Ok K) (hcd : c.cd = .ref ca) (hq : c.q ++ PySem.Str.ofString ".<locals>." ++ PySem.Str.ofString "<lambda>" = qual) (hk : codeHdIn K ca P = true) (tab : TabOk P lpos qual σ) (S : St prog w (c.fm sc none) fr σ m s.heap)
    (hdef : defaultsOf params (c.fm sc none).env = ([], [])) (hcl : closureFor scope (c.fm sc none).env = pure [])
    (h : ∀ f c' pm ctv h' tk σ', St prog w (c.fm sc none) ((f, kla_obj "<lambda>" qual params body scope [] pm c' ctv) :: fr) σ' m h' → (∀ p ∈ fr, p.1 ≠ f) → σ' c' = some (.code qual) → TabOk P lpos qual σ' → Ext P σ σ' → Q (.ref f) { s with heap := h', toks := tk }) :
    wpAny (model prog w) c.C.A (eval (.Lambda params body scope lpos) (c.fm sc none).env) Q E s := by
  refine kla_eval hdef ?_
  obtain ⟨mh, own, n, news, F', N, g2, g3, gb, g4⟩ := id S
  have C := codeHd_of_K O.X hk
  have e : (c.fm sc none).env.qual ++ ("<lambda>" : PySem.Str) = qual := hq
  rw [e]
  rcases tab with t0 | ⟨c', t1, t2⟩
  · obtain ⟨ro, hm, r⟩ := g3 _ _ t0
    cases r
    have N' : News c.C.h₀ c.C.L s.heap ((P, tabObj #[]) :: news.filter (fun p => p.1 != P)) := fun p hp => by
      rcases List.mem_cons.mp hp with rfl | hp
      · exact N _ hm
      · exact N _ (List.mem_filter.mp hp).1
    have hne : ∀ p ∈ news.filter (fun p => p.1 != P), p.1 ≠ P := fun p hp => by simpa using (List.mem_filter.mp hp).2
    refine kla_nest F' N' O.T C hcd (.head hne) (by trivial) rfl hcl fun f c' oc vs t ctv h' tk F₂ N₂ hd hv hlow hcf => ?_
    have hlowP : P < c' := hlow _ (.head _)
    have hlowN : ∀ p ∈ news, p.1 < c' := fun p hp => by
      by_cases q : p.1 = P
      · rw [q]; exact hlowP
      · exact hlow p (.tail _ (List.mem_filter.mpr ⟨hp, by simpa using q⟩))
    have hσ : ∀ a o, σ a = some o → a < c' := fun a o e => by
      obtain ⟨ro, hm, _⟩ := g3 a o e
      exact hlowN _ hm
    have hmodP : sysModules < P := g4 _ _ t0
    refine h f c' ((c.C.mg "__name__").getD .none) ctv h' tk (upd (upd σ P (.tab #[rawInt lpos.line, rawInt lpos.col, .ref c'])) c' (.code qual)) ⟨mh, own, ⟨n.1, fun p hp q hq => ?_⟩, _, F₂, N₂, fun p hp => ?_, fun a o ea => ?_, gb, fun a o ea => ?_⟩ (fun p hp => ?_) ?_ (.inr ⟨c', ?_, ?_⟩) fun a o hn ea => ?_
    · rcases List.mem_cons.mp hq with rfl | hq
      · exact Nat.ne_of_lt (Nat.lt_trans (hlowN _ (g2 p (List.mem_append_left _ hp)).1) hcf)
      · exact n.2 p hp q hq
    · have old : ∀ p ∈ own ++ fr, p ∈ (c', oc) :: (P, tabObj (#[] ++ #[rawInt lpos.line, rawInt lpos.col, .ref c'])) :: news.filter (fun p => p.1 != P) ∧ upd (upd σ P (.tab #[rawInt lpos.line, rawInt lpos.col, .ref c'])) c' (.code qual) p.1 = none := fun p hp => by
        have z := g2 p hp
        have hp1 : p.1 ≠ P := fun q => by rw [q, t0] at z; cases z.2
        have hp2 : p.1 ≠ c' := Nat.ne_of_lt (hlowN _ z.1)
        refine ⟨.tail _ (.tail _ (List.mem_filter.mpr ⟨z.1, by simpa using hp1⟩)), ?_⟩
        unfold upd
        rw [if_neg hp2, if_neg hp1]; exact z.2
      have : p = (f, kla_obj "<lambda>" qual params body scope [] ((c.C.mg "__name__").getD .none) c' ctv) ∨ p ∈ own ++ fr := by
        rcases List.mem_append.mp hp with hp | hp
        · exact .inr (List.mem_append_left _ hp)
        · rcases List.mem_cons.mp hp with rfl | hp
          · exact .inl rfl
          · exact .inr (List.mem_append_right _ hp)
      rcases this with rfl | hp
      · refine ⟨.head _, ?_⟩
        unfold upd
        rw [if_neg (Nat.ne_of_gt hcf), if_neg (Nat.ne_of_gt (Nat.lt_trans hlowP hcf))]
        cases q : σ f with
        | none => rfl
        | some o => exact absurd (Nat.lt_trans (hσ _ _ q) hcf) (Nat.lt_irrefl _)
      · exact ⟨.tail _ (old p hp).1, (old p hp).2⟩
    · unfold upd at ea
      by_cases q : a = c'
      · rw [if_pos q] at ea; cases ea; subst q
        exact ⟨oc, .tail _ (.head _), OR.code qual t hd hv⟩
      · rw [if_neg q] at ea
        by_cases q2 : a = P
        · rw [if_pos q2] at ea; cases ea; subst q2
          exact ⟨_, .tail _ (.tail _ (.head _)), OR.tab _⟩
        · rw [if_neg q2] at ea
          obtain ⟨ro, hm, r⟩ := g3 a o ea
          exact ⟨ro, .tail _ (.tail _ (.tail _ (List.mem_filter.mpr ⟨hm, by simpa using q2⟩))), r⟩
    · unfold upd at ea
      by_cases q : a = c'
      · rw [q]; exact Nat.lt_trans hmodP hlowP
      · rw [if_neg q] at ea
        by_cases q2 : a = P
        · rw [q2]; exact hmodP
        · rw [if_neg q2] at ea
          exact g4 a o ea
    · exact Nat.ne_of_lt (Nat.lt_trans (hlowN _ (g2 p (List.mem_append_right _ hp)).1) hcf)
    · unfold upd; rw [if_pos rfl]
    · unfold upd; rw [if_neg (Nat.ne_of_lt hlowP), if_pos rfl]
    · unfold upd; rw [if_pos rfl]
    · unfold upd
      rw [if_neg (Nat.ne_of_lt (hσ _ _ ea)), if_neg hn]; exact ea
  · obtain ⟨ro, hm, r⟩ := g3 _ _ t1
    cases r
    refine kla_hit (c' := c') F' N O.T C hcd hm (by simp [TriplesOk, rawInt]) (by simp [codeAmong, rawInt]) hcl fun f ctv h' tk F₂ N₂ hlow => ?_
    have hσ : ∀ a o, σ a = some o → a < f := fun a o e => by
      obtain ⟨ro, hm, _⟩ := g3 a o e
      exact hlow _ hm
    refine h f c' ((c.C.mg "__name__").getD .none) ctv h' tk σ ⟨mh, own, ⟨n.1, fun p hp q hq => ?_⟩, _, F₂, N₂, fun p hp => ?_, fun a o ea => ?_, gb, g4⟩ (fun p hp => ?_) t2 (.inr ⟨c', t1, t2⟩) (Ext.refl P σ)
    · rcases List.mem_cons.mp hq with rfl | hq
      · exact Nat.ne_of_lt (hlow _ (g2 p (List.mem_append_left _ hp)).1)
      · exact n.2 p hp q hq
    · have : p = (f, kla_obj "<lambda>" qual params body scope [] ((c.C.mg "__name__").getD .none) c' ctv) ∨ p ∈ own ++ fr := by
        rcases List.mem_append.mp hp with hp | hp
        · exact .inr (List.mem_append_left _ hp)
        · rcases List.mem_cons.mp hp with rfl | hp
          · exact .inl rfl
          · exact .inr (List.mem_append_right _ hp)
      rcases this with rfl | hp
      · refine ⟨.head _, ?_⟩
        cases q : σ f with
        | none => rfl
        | some o => exact absurd (hσ _ _ q) (Nat.lt_irrefl _)
      · exact ⟨.tail _ (g2 p hp).1, (g2 p hp).2⟩
    · obtain ⟨ro, hm, r⟩ := g3 a o ea
      exact ⟨ro, .tail _ hm, r⟩
    · exact Nat.ne_of_lt (hlow _ (g2 p (List.mem_append_right _ hp)).1)
end Mine
namespace Mine
variable {prog : Program} {w : World} {K : Frag} {F : Fm} {σ : Store} {m : Loc}

/-- rows as the program tells them: kind, mark, detail -/
inductive RowsK (σ : Store) : List AV → List Row → Prop
  | nil : RowsK σ [] []
  | cons {a : Addr} {r : Row} {xs rs} : σ a = some (.tup [.str r.kind, .int r.mark, .str r.detail]) → RowsK σ xs rs → RowsK σ (.ref a :: xs) (r :: rs)
theorem RowsK.length {xs : List AV} {rs : List Row} (h : RowsK σ xs rs) : xs.length = rs.length := by
  induction h with
  | nil => rfl
  | cons _ _ ih => rw [List.length_cons, List.length_cons, ih]
theorem RowsK.get {xs : List AV} {rs : List Row} (h : RowsK σ xs rs) : ∀ i, i < xs.length → ∃ a, xs.getD i .none = .ref a ∧ σ a = some (.tup [.str (rowAt rs i).kind, .int (rowAt rs i).mark, .str (rowAt rs i).detail]) := by
  induction h with
  | nil => intro i hi; exact absurd hi (Nat.not_lt_zero _)
  | cons e _ ih =>
    intro i hi
    cases i with
    | zero => exact ⟨_, rfl, e⟩
    | succ i =>
      obtain ⟨a, e1, e2⟩ := ih i (by simpa using hi)
      exact ⟨a, by simpa using e1, by simpa [rowAt] using e2⟩
theorem RowsK.pick {xs : List AV} {rs : List Row} (h : RowsK σ xs rs) : ∀ p : List Nat, (∀ i ∈ p, i < xs.length) → RowsK σ (p.map fun i => xs.getD i .none) (p.map (rowAt rs))
  | [], _ => .nil
  | i :: p, hp => by
    obtain ⟨a, e1, e2⟩ := h.get i (hp i (.head _))
    rw [List.map_cons, List.map_cons, e1]
    exact .cons e2 (h.pick p fun j hj => hp j (.tail _ hj))
theorem RowsK.mono {σ' : Store} {P : Addr} {o : Array Value} (hP : σ P = none ∨ σ P = some (.tab o) ) (hs : Ext P σ σ') {xs : List AV} {rs : List Row} (h : RowsK σ xs rs) : RowsK σ' xs rs := by
  induction h with
  | nil => exact .nil
  | @cons a r xs rs e _ ih =>
    refine .cons (hs _ _ (fun q => ?_) e) ih
    rw [q] at e
    rcases hP with hP | hP <;> rw [hP] at e <;> cases e
theorem RowsK.up {σ' : Store} (hs : ∀ a o, σ a = some o → σ' a = some o) {xs : List AV} {rs : List Row} (h : RowsK σ xs rs) : RowsK σ' xs rs := by
  induction h with
  | nil => exact .nil
  | cons e _ ih => exact .cons (hs _ _ e) ih
theorem RowsA.up {σ' : Store} (hs : ∀ a o, σ a = some o → σ' a = some o) {xs : List AV} {rs : List Row} (h : RowsA σ xs rs) : RowsA σ' xs rs := by
  induction h with
  | nil => exact .nil
  | cons e _ ih => exact .cons (hs _ _ e) ih
theorem RowsA.snoc {xs : List AV} {rs : List Row} {a : Addr} {r : Row} (h : RowsA σ xs rs) (e : σ a = some (.tup [.int r.mark, .str r.kind, .str r.detail])) : RowsA σ (xs ++ [.ref a]) (rs ++ [r]) := by
  induction h with
  | nil => exact .cons e .nil
  | cons e' _ ih => exact .cons e' ih

/-- the key: what the lambda makes of a row -/
noncomputable def KeyOk (prog : Program) (w : World) (K : Frag) (scope : Scope) (x : PySem.Str) (body : PySem.Expr) : Prop :=
  ∀ (c : Fn) (σ : Store) (a : Addr) (r : Row), (c.fm scope none).Ok K → σ a = some (.tup [.str r.kind, .int r.mark, .str r.detail]) →
    Ev prog w (c.fm scope none) σ [(x, .ref a)] body fun v σ' => ∃ k, v = .ref k ∧ σ k = none ∧ σ' = upd σ k (.tup [.int r.mark, .str r.kind, .str r.detail])

/-- a frame whose names stay as they are -/
noncomputable abbrev Fm.fix (F : Fm) (mh₀ : PySem.Str → Option Value) (own₀ : List (Addr × Obj)) : Fm := ⟨F.C, F.env, fun mh own _ => mh = mh₀ ∧ own = own₀⟩
theorem Fm.Ok.fix {mh₀ : PySem.Str → Option Value} {own₀ : List (Addr × Obj)} (O : F.Ok K) : (F.fix mh₀ own₀).Ok K where
  B := O.B
  X := O.X
  T := O.T
  hh := O.hh
  hf := O.hf
  hL := O.hL
  hke := O.hke
  hd := O.hd
  hu := O.hu
  gl := O.gl
  bl := O.bl
  ek := O.ek
  mono := fun _ _ _ _ h _ => h
theorem St.toCo {mh₀ : PySem.Str → Option Value} {own₀ fr : List (Addr × Obj)} {h : Heap} (S : St prog w (F.fix mh₀ own₀) fr σ m h) : Dj own₀ fr ∧ Co prog w F.C.h₀ F.C.L mh₀ (own₀ ++ fr) σ h := by
  obtain ⟨mh, own, ⟨⟨rfl, rfl⟩, dj⟩, c⟩ := S
  exact ⟨dj, c⟩
theorem Co.toSt {mh₀ : PySem.Str → Option Value} {own₀ fr : List (Addr × Obj)} {h : Heap} (dj : Dj own₀ fr) (c : Co prog w F.C.h₀ F.C.L mh₀ (own₀ ++ fr) σ h) : St prog w (F.fix mh₀ own₀) fr σ m h := ⟨mh₀, own₀, ⟨⟨rfl, rfl⟩, dj⟩, c⟩

theorem keys_walk {f c' kS D : Addr} {oD : Obj} {name qual x : PySem.Str} {params : Arguments} {body : PySem.Expr} {scope : Scope} {pm ctv : Value} {fr : List (Addr × Obj)} {mh₀ : PySem.Str → Option Value} {own₀ : List (Addr × Obj)}
    (O : F.Ok K) (hd : 1 ≤ F.C.d) (key : KeyOk prog w K scope x body)
    (hb : ∀ vs : List Value, vs.length = 1 → bindArgs (kla_fn name qual params body scope [] pm (.ref c') ctv) ⟨vs, []⟩ = pure ([x].zip vs))
    (hl : ([x].all fun x => scope.names.lookup x == some .local) = true) (hcell : (scope.names.all fun x => x.2 != .cell) = true)
    (h1 : scope.isCoroutine = false) (h2 : scope.isGenerator = false) (h3 : scope.kind = .function) (hn : ∀ p ∈ own₀ ++ (D, oD) :: (f, kla_obj name qual params body scope [] pm c' ctv) :: fr, p.1 ≠ kS)
    {Fin : List Value → Nat → Shared → Prop} : ∀ (xs : List AV) {vs : List Value} {rs : List Row} {σ : Store} {ks : List Value} {kas : List AV} {krs : List Row} {e : Nat} {s : Shared}, VRs xs vs → RowsK σ xs rs → VRs kas ks → RowsA σ kas krs → σ c' = some (.code qual) →
      St prog w (F.fix mh₀ own₀) ((kS, seqObj "list" ks.toArray e) :: (D, oD) :: (f, kla_obj name qual params body scope [] pm c' ctv) :: fr) σ m s.heap →
      (∀ σ' kas' ks' e' h' tk, (∀ a o, σ a = some o → σ' a = some o) → VRs kas' ks' → RowsA σ' kas' (krs ++ rs) → St prog w (F.fix mh₀ own₀) ((kS, seqObj "list" ks'.toArray e') :: (D, oD) :: (f, kla_obj name qual params body scope [] pm c' ctv) :: fr) σ' m h' → Fin ks' e' { s with heap := h', toks := tk }) →
      KatKeys prog w F.C.A F.C.h₀ F.C.L mh₀ kS (.ref f) Fin vs ks e s
  | [], vs, rs, σ, ks, kas, krs, e, s, hv, hr, rk, ra, hc, S, hfin => by
    cases hv
    cases hr
    exact KatKeys.nil (hfin σ kas ks e s.heap s.toks (fun _ _ e => e) rk (by rw [List.append_nil]; exact ra) S)
  | x₁ :: xs, vs, rs, σ, ks, kas, krs, e, s, hv, hr, rk, ra, hc, S, hfin => by
    cases hr with
    | @cons a row _ rs e' q =>
    cases hv with
    | cons r rs' =>
    cases r
    refine KatKeys.cons (wpAny_call (code_lam (F := F.fix mh₀ own₀) [x] (O.fix) hd hc hb rfl (by simp) hl hcell h1 h2 h3 (fun c Oc _ => key c σ a row Oc e') (.cons (.ref a) .nil) S (.tail _ (.tail _ (.head _))) fun y ay h' tk σ' ry S' qy => ?_))
    obtain ⟨k, rfl, hk, rfl⟩ := qy
    cases ry
    obtain ⟨dj, c⟩ := S'.toCo
    obtain ⟨rest, F', N', hne, close⟩ := Co.openFr (fr₁ := own₀) c hn
    refine KatBack.intro F' N' (.head hne) fun h₂ e₂ F₂ N₂ => ?_
    have up1 : ∀ b o, σ b = some o → upd σ k (.tup [.int row.mark, .str row.kind, .str row.detail]) b = some o := fun b o eb => by
      unfold upd
      rw [if_neg (fun z => by rw [z, hk] at eb; cases eb)]; exact eb
    have S₂ := Co.toSt (F := F) (m := m) (fr := (kS, seqObj "list" (ks ++ [Value.ref k]).toArray e₂) :: (D, oD) :: (f, kla_obj name qual params body scope [] pm c' ctv) :: fr) (fun p hp q hq => by
      rcases List.mem_cons.mp hq with rfl | hq
      · exact dj p hp (kS, seqObj "list" ks.toArray e) (.head _)
      · exact dj p hp q (.tail _ hq)) (close h₂ _ F₂ N₂)
    refine keys_walk O hd key hb hl hcell h1 h2 h3 hn xs rs' (q.up up1) (rk.append (.cons (.ref k) .nil)) ((ra.up up1).snoc (by unfold upd; rw [if_pos rfl])) (up1 _ _ hc) S₂ fun σ₃ kas₃ ks₃ e₃ h₃ tk₃ up3 rk₃ ra₃ S₃ => ?_
    refine hfin σ₃ kas₃ ks₃ e₃ h₃ tk₃ (fun b o eb => up3 _ _ (up1 _ _ eb)) rk₃ ?_ S₃
    rw [List.append_assoc] at ra₃
    exact ra₃

/-- the lists' ends -/
theorem katfin_of {kS D f : Addr} {fo : Obj} {ks out : List Value} {ys : List AV} {e e1 : Nat} {fr : List (Addr × Obj)} {mh₀ : PySem.Str → Option Value} {own₀ : List (Addr × Obj)} {s : Shared} {C : Shared → Prop} (hDm : sysModules < D)
    (S : St prog w (F.fix mh₀ own₀) ((kS, seqObj "list" ks.toArray e) :: (D, seqObj "list" #[] e1) :: (f, fo) :: fr) σ m s.heap) (hnk : ∀ p ∈ own₀ ++ (D, seqObj "list" #[] e1) :: (f, fo) :: fr, p.1 ≠ kS) (hnD : ∀ p ∈ own₀ ++ (f, fo) :: fr, p.1 ≠ D) (r : VRs ys out)
    (h : ∀ h', σ D = none → St prog w (F.fix mh₀ own₀) fr (upd σ D (.list ys)) m h' → C { s with heap := h' }) : KatFin F.C.h₀ F.C.L mh₀ kS D ks e e1 out C s := by
  obtain ⟨dj, c⟩ := S.toCo
  obtain ⟨rest, F', N', hne, close⟩ := Co.openFr (fr₁ := own₀) c hnk
  refine KatFin.intro F' N' (.head hne) fun h₂ e₂ F₂ N₂ => ?_
  have c₂ := close h₂ _ F₂ N₂
  obtain ⟨rest₃, F₃, N₃, hne₃, close₃⟩ := Co.openFr (fr₁ := own₀ ++ [(kS, seqObj "list" #[] e₂)]) (fr₂ := (f, fo) :: fr) (a := D) (o := seqObj "list" #[] e1) (by simpa using c₂) (fun p hp => by
    rcases List.mem_append.mp hp with hp | hp
    · rcases List.mem_append.mp hp with hp | hp
      · exact hnD p (List.mem_append_left _ hp)
      · rw [List.mem_singleton.mp hp]
        exact fun z => hnk (D, seqObj "list" #[] e1) (by simp) z.symm
    · exact hnD p (List.mem_append_right _ hp))
  refine KasFin.intro F₃ N₃ (.head hne₃) fun h₄ e₄ F₄ N₄ => ?_
  have c₄ := close₃ h₄ _ F₄ N₄
  obtain ⟨fresh, c₅⟩ := c₄.show (a := D) (o := listOf out.toArray e₄) (ao := .list ys) (fr' := own₀ ++ fr) (by simp) (OR.list e₄ r) hDm (fun p hp => by
    refine ⟨?_, ?_⟩
    · simp only [List.mem_append, List.mem_cons] at hp ⊢
      rcases hp with hp | hp <;> simp [hp]
    · rcases List.mem_append.mp hp with hp | hp
      · exact hnD p (List.mem_append_left _ hp)
      · exact hnD p (List.mem_append_right _ (.tail _ hp)))
  exact h h₄ fresh (Co.toSt (fun p hp q hq => dj p hp q (.tail _ (.tail _ (.tail _ hq)))) c₅)
end Mine
namespace Mine
variable {prog : Program} {w : World} {K : Frag} {F : Fm} {σ : Store} {m : Loc}

theorem TabOk.at {P : Addr} {lpos : Pos} {qual : PySem.Str} (h : TabOk P lpos qual σ) : ∃ o, σ P = some (.tab o) := by
  rcases h with h | ⟨c, h, _⟩
  · exact ⟨_, h⟩
  · exact ⟨_, h⟩
theorem TabOk.up {P : Addr} {lpos : Pos} {qual : PySem.Str} {σ' : Store} (hs : ∀ a o, σ a = some o → σ' a = some o) (h : TabOk P lpos qual σ) : TabOk P lpos qual σ' := by
  rcases h with h | ⟨c, h, h'⟩
  · exact .inl (hs _ _ h)
  · exact .inr ⟨c, hs _ _ h, hs _ _ h'⟩

theorem ev_sorted_key {c : Fn} {sc : Scope} {xp kp pos lpos : Pos} {e : PySem.Expr} {params : Arguments} {body : PySem.Expr} {scope : Scope} {x : PySem.Str} {ca P : Addr} {qual : PySem.Str} {Q : AV → Store → Prop}
    (O : (c.fm sc none).Ok K) (hd : 2 ≤ c.C.d) (hcd : c.cd = .ref ca) (hq : c.q ++ PySem.Str.ofString ".<locals>." ++ PySem.Str.ofString "<lambda>" = qual) (hk : codeHdIn K ca P = true)
    (hsn : nsIn K mainGlobals (PySem.Str.ofString "sorted") = some none) (hsv : bootBuiltins (PySem.Str.ofString "sorted") = some (.builtin "sorted")) (key : KeyOk prog w K scope x body)
    (hb : ∀ (pm : Value) (c' : Addr) (ctv : Value) (vs : List Value), vs.length = 1 → bindArgs (kla_fn "<lambda>" qual params body scope [] pm (.ref c') ctv) ⟨vs, []⟩ = pure ([x].zip vs))
    (hl : ([x].all fun x => scope.names.lookup x == some .local) = true) (hcell : (scope.names.all fun x => x.2 != .cell) = true)
    (hs1 : scope.isCoroutine = false) (hs2 : scope.isGenerator = false) (hs3 : scope.kind = .function)
    (h : Ev prog w (c.fm sc none) σ m e fun v σ₁ => ∃ l xs rs, v = .ref l ∧ σ₁ l = some (.list xs) ∧ RowsK σ₁ xs rs ∧ rs.length < 64 ∧ TabOk P lpos qual σ₁ ∧
      ∀ D ys rs' σ₂, Ext P σ₁ σ₂ → TabOk P lpos qual σ₂ → σ₂ D = none → RowsK σ₂ ys rs' → rs'.Perm rs → rs'.Pairwise (fun a b => lt3 b a = false) → Q (.ref D) (upd σ₂ D (.list ys)))
    (hdef : defaultsOf params (c.fm sc none).env = ([], []) := by rfl) (hcl : closureFor scope (c.fm sc none).env = pure [] := by rfl)
    (hkd : (c.fm sc none).env.kindOf (PySem.Str.ofString "sorted") = some .globalImplicit := by rfl)
    (h1 : eval (.Call (.Name (PySem.Str.ofString "sorted") xp) [e] [⟨some (PySem.Str.ofString "key"), .Lambda params body scope lpos, kp⟩] pos) (c.fm sc none).env = (do
      let f ← eval (.Name (PySem.Str.ofString "sorted") xp) (c.fm sc none).env
      callWith pos f [] (backTo pos (starEach [e] (c.fm sc none).env)) (backToKw pos (keywordEach [⟨some (PySem.Str.ofString "key"), .Lambda params body scope lpos, kp⟩] (c.fm sc none).env))) := by rfl)
    (h2 : starEach [e] (c.fm sc none).env = (false, eval e (c.fm sc none).env) :: starEach [] (c.fm sc none).env := by rfl)
    (h3 : backTo pos (starEach [e] (c.fm sc none).env) = (false, eval e (c.fm sc none).env) :: backTo pos (starEach [] (c.fm sc none).env) := by rfl) (h4 : (backTo pos (starEach [e] (c.fm sc none).env)).any (·.1) = false := by rfl) :
    Ev prog w (c.fm sc none) σ m (.Call (.Name (PySem.Str.ofString "sorted") xp) [e] [⟨some (PySem.Str.ofString "key"), .Lambda params body scope lpos, kp⟩] pos) Q := by
  intro fr s Q' E S k
  rw [h1]
  refine wpAny_bind ((ev_built (Q := fun a σ' => a = .blt "sorted" ∧ σ' = σ) O hsn hsv (.blt "sorted") ⟨rfl, rfl⟩ (by decide) hkd (by rfl)) fr s _ E S fun f a h' tk σ' r S' q => ?_)
  obtain ⟨rfl, rfl⟩ := q
  cases r
  refine callWith_kw ((evl_cons (es := []) (Q := fun as σ₁ => ∃ v, as = [v] ∧ ∃ l xs rs, v = .ref l ∧ σ₁ l = some (.list xs) ∧ RowsK σ₁ xs rs ∧ rs.length < 64 ∧ TabOk P lpos qual σ₁ ∧
      ∀ D ys rs' σ₂, Ext P σ₁ σ₂ → TabOk P lpos qual σ₂ → σ₂ D = none → RowsK σ₂ ys rs' → rs'.Perm rs → rs'.Pairwise (fun a b => lt3 b a = false) → Q (.ref D) (upd σ₂ D (.list ys))) (h.mono fun v σ₁ hv => evl_nil ⟨v, rfl, hv⟩) h2) pos fr _ _ E S' fun vs as h₁ tk₁ σ₁ r₀ S₁ q => ?_) h3 h4
  obtain ⟨v, rfl, l, xs, rs, rfl, hl₁, rows, h64, tab, q⟩ := q
  obtain ⟨v, rfl, r⟩ := one_arg r₀
  cases r
  refine kws_cons (lam_make O hcd hq hk tab S₁ hdef hcl fun f c' pm ctv h₂ tk₂ σ₂ S₂ hff hc₂ tab₂ ext => kws_nil ?_)
  show wpAny (model prog w) c.C.A (call (.builtin "sorted") [.ref l] [(PySem.Str.ofString "key", .ref f)]) _ _ _
  obtain ⟨tbo, htb⟩ := tab.at
  have hlP : l ≠ P := fun z => by rw [z, htb] at hl₁; cases hl₁
  have hl₂ : σ₂ l = some (.list xs) := ext _ _ hlP hl₁
  have rows₂ : RowsK σ₂ xs rs := rows.mono (.inr htb) ext
  obtain ⟨us, ru, hL⟩ := S₂.isList hl₂
  have hxl := rows.length
  have hul := ru.length
  obtain ⟨mh, own, nr, news, F', N, g2, g3, gb, g4⟩ := id S₂
  have hmod : ∃ p ∈ news, sysModules < p.1 := by
    obtain ⟨ro, hm, _⟩ := g3 l _ hl₂
    exact ⟨_, hm, g4 l _ hl₂⟩
  refine ks_sorted F' N hL (by (first | lia | omega)) fun D kS e1 h₃ F₃ N₃ hDk hlow => ?_
  obtain ⟨p₀, hp₀, hp1⟩ := hmod
  have hDm : sysModules < D := Nat.lt_trans hp1 (hlow _ hp₀)
  have hfr : ∀ p ∈ own ++ (f, kla_obj "<lambda>" qual params body scope [] pm c' ctv) :: fr, p.1 < D := fun p hp => hlow _ (g2 p hp).1
  have hnD : ∀ p ∈ own ++ (f, kla_obj "<lambda>" qual params body scope [] pm c' ctv) :: fr, p.1 ≠ D := fun p hp => Nat.ne_of_lt (hfr p hp)
  have hnk : ∀ p ∈ own ++ (D, seqObj "list" #[] e1) :: (f, kla_obj "<lambda>" qual params body scope [] pm c' ctv) :: fr, p.1 ≠ kS := fun p hp => by
    rcases List.mem_append.mp hp with hp | hp
    · exact Nat.ne_of_lt (Nat.lt_trans (hfr p (List.mem_append_left _ hp)) hDk)
    · rcases List.mem_cons.mp hp with rfl | hp
      · exact Nat.ne_of_lt hDk
      · exact Nat.ne_of_lt (Nat.lt_trans (hfr p (List.mem_append_right _ hp)) hDk)
  have σlow : ∀ a o, σ₂ a = some o → a < D := fun a o ea => by
    obtain ⟨ro, hm, _⟩ := g3 a o ea
    exact hlow _ hm
  have σnone : ∀ a, D ≤ a → σ₂ a = none := fun a ha => by
    cases z : σ₂ a with
    | none => rfl
    | some o => exact absurd (σlow _ _ z) (Nat.not_lt.mpr ha)
  have c₃ : Co prog w c.C.h₀ c.C.L mh (own ++ (kS, seqObj "list" #[] 0) :: (D, seqObj "list" #[] e1) :: (f, kla_obj "<lambda>" qual params body scope [] pm c' ctv) :: fr) σ₂ h₃ := by
    refine ⟨_, F₃, N₃, fun p hp => ?_, fun a o ea => ?_, gb, g4⟩
    · have : p = (kS, seqObj "list" #[] 0) ∨ p = (D, seqObj "list" #[] e1) ∨ p ∈ own ++ (f, kla_obj "<lambda>" qual params body scope [] pm c' ctv) :: fr := by
        rcases List.mem_append.mp hp with hp | hp
        · exact .inr (.inr (List.mem_append_left _ hp))
        · rcases List.mem_cons.mp hp with rfl | hp
          · exact .inl rfl
          · rcases List.mem_cons.mp hp with rfl | hp
            · exact .inr (.inl rfl)
            · exact .inr (.inr (List.mem_append_right _ hp))
      rcases this with rfl | rfl | hp
      · exact ⟨.head _, σnone _ (Nat.le_of_lt hDk)⟩
      · exact ⟨.tail _ (.head _), σnone _ (Nat.le_refl _)⟩
      · exact ⟨.tail _ (.tail _ (g2 p hp).1), (g2 p hp).2⟩
    · obtain ⟨ro, hm, r⟩ := g3 a o ea
      exact ⟨ro, .tail _ (.tail _ hm), r⟩
  have dj₃ : Dj own ((kS, seqObj "list" #[] 0) :: (D, seqObj "list" #[] e1) :: (f, kla_obj "<lambda>" qual params body scope [] pm c' ctv) :: fr) := fun p hp z hz => by
    rcases List.mem_cons.mp hz with rfl | hz
    · exact hnk p (List.mem_append_left _ hp)
    · rcases List.mem_cons.mp hz with rfl | hz
      · exact hnD p (List.mem_append_left _ hp)
      · exact nr.2 p hp z hz
  have S₃ : St prog w ((c.fm sc none).in2.fix mh own) ((kS, seqObj "list" #[] 0) :: (D, seqObj "list" #[] e1) :: (f, kla_obj "<lambda>" qual params body scope [] pm c' ctv) :: fr) σ₂ m h₃ := Co.toSt (F := (c.fm sc none).in2) dj₃ c₃
  refine keys_walk (F := (c.fm sc none).in2) (O.in2 (by show 1 ≤ c.C.d; (first | lia | omega))) (by show 1 ≤ c.C.d - 1; (first | lia | omega)) key (hb pm c' ctv) hl hcell hs1 hs2 hs3 hnk xs (ks := []) (s := { heap := h₃, gens := s.gens, drawn := s.drawn, toks := tk₂, os := s.os }) ru rows₂ .nil .nil hc₂ S₃ fun σ₄ kas ks e₄ h₄ tk₄ up rk ra S₄ => ?_
  intro hlen
  have fin : ∀ (out : List Value) (ys : List AV) (rs' : List Row) (s₅ : Shared), s₅ = { heap := h₄, gens := s.gens, drawn := s.drawn, toks := tk₄, os := s.os } → VRs ys out → RowsK σ₄ ys rs' → rs'.Perm rs → rs'.Pairwise (fun a b => lt3 b a = false) →
      KatFin c.C.h₀ c.C.L mh kS D ks e₄ e1 out (fun s4 => PySem.Fin.done (.ret .none) = .done (.ret .none) ∧ Q' (.ref D) s4) s₅ := by
    rintro out ys rs' _ rfl ro rk' pe pw
    refine katfin_of (F := (c.fm sc none).in2) (s := { heap := h₄, gens := s.gens, drawn := s.drawn, toks := tk₄, os := s.os }) hDm S₄ hnk hnD ro fun h₅ fresh S₅ => ⟨rfl, ?_⟩
    obtain ⟨dj, cc⟩ := S₅.toCo
    exact k _ _ h₅ tk₄ _ (.ref D) ⟨mh, own, ⟨nr.1, dj⟩, cc⟩ (q D ys rs' σ₄ (ext.trans fun a o _ ea => up a o ea) (tab₂.up up) fresh rk' pe pw)
  have rows₄ : RowsK σ₄ xs rs := rows₂.up up
  by_cases h2 : us.length < 2
  · refine ks_end_small (h₀ := c.C.h₀) (L := c.C.L) (m := mh) hlen h2 (fin us xs rs _ rfl ru rows₄ (List.Perm.refl _) ?_)
    match rs, hxl with
    | [], _ => exact List.Pairwise.nil
    | [_], _ => exact List.pairwise_singleton _ _
    | _ :: _ :: _, hxl => simp at hxl; (first | lia | omega)
  · rw [List.nil_append] at ra
    have HH : RowsH h₄ ks rs := RowsA.toH S₄ rk ra
    have hkl := rk.length
    refine kat_end (b := false) (e := e₄) (h₀ := c.C.h₀) (L := c.C.L) (m := mh) hlen (by (first | lia | omega)) (by (first | lia | omega)) ?_
    refine kind_rows (s := { heap := h₄, gens := s.gens, drawn := s.drawn, toks := tk₄, os := s.os }) HH (by (first | lia | omega)) ?_
    have T := sort_ok (n := us.length) (rows_lt rs) (by (first | lia | omega)) (P := fun p => PR us.length p ∧ Up (fun i j => lt3 (rowAt rs i) (rowAt rs j)) p us.length) fun p a b => ⟨a, b⟩
    refine tw_wp (n := us.length) (lt := fun i j => lt3 (rowAt rs i) (rowAt rs j)) (fun i j C hi hj hC => ?_) (fun p hp => ?_) T
    · show kas_ask prog w _ _ ks i j C _
      exact ask_rows (s := { heap := h₄, gens := s.gens, drawn := s.drawn, toks := tk₄, os := s.os }) HH (by (first | lia | omega)) (by (first | lia | omega)) hC
    · rw [hul] at hp
      have hin : ∀ i ∈ p.toList, i < xs.length := fun i hi => by simpa using hp.1.perm.mem_iff.mp hi
      refine fin (p.toList.map fun i => us.getD i .none) _ _ _ rfl (ru.pick _ hin) (rows₄.pick _ hin) ?_ (up_pairwise hp.1.size hp.2)
      refine perm_map hp.1.perm hxl.symm fun i h => ?_
      have : i < rs.length := by (first | lia | omega)
      simp [rowAt, this]
end Mine
namespace Mine
variable {prog : Program} {w : World} {K : Frag} {F : Fm} {σ : Store} {m : Loc}

/-! equality of sequences -/
noncomputable def aEq (a b : AV) : Bool := eqA a b == some true
theorem unitsOk (O : F.Ok K) : F.C.A.units + 10 < cLine := by have := O.hu; (first | lia | omega)
/-- lists of atoms -/
theorem cmp_eq_list {l b : Addr} {xs ys : List AV} {Q : Bool → Store → Prop} (O : F.Ok K) (hl : σ l = some (.list xs)) (hb : σ b = some (.list ys)) (hx : ∀ x ∈ xs, ∀ y ∈ ys, (eqA x y).isSome = true)
    (h : Q (xs.length == ys.length && (List.range xs.length).all fun j => aEq (xs.getD j .none) (ys.getD j .none)) σ) : Cmp prog w F σ m .Eq (.ref l) (.ref b) Q := by
  intro u v ru rv fr s Q' E S k
  cases ru; cases rv
  obtain ⟨us, r, hL⟩ := S.isList hl
  obtain ⟨vs, q, hB⟩ := S.isList hb
  have e1 := r.length
  have e2 := q.length
  have hu := unitsOk O
  show wpAny _ _ (richCompare .Eq (.ref l) (.ref b)) _ _ _
  by_cases hz : xs.length = ys.length
  · refine SeqAt.RcAt.lists (e := fun j => aEq (xs.getD j .none) (ys.getD j .none)) hL hB (by simp [e1, e2, hz]) (by (first | lia | omega)) (fun j h1 h2 => ?_) prog w _ _ ?_
    · have h1' : j < xs.length := by simpa [e1] using h1
      have h2' : j < ys.length := by (first | lia | omega)
      have g1 : xs[j]? = some (xs.getD j .none) := by simp [List.getElem?_eq_getElem h1']
      have g2 : ys[j]? = some (ys.getD j .none) := by simp [List.getElem?_eq_getElem h2']
      obtain ⟨x, k1, k2⟩ := r.get g1
      obtain ⟨y, k3, k4⟩ := q.get g2
      have m1 : xs.getD j .none ∈ xs := List.mem_of_getElem? g1
      have m2 : ys.getD j .none ∈ ys := List.mem_of_getElem? g2
      obtain ⟨c, hc⟩ := Option.isSome_iff_exists.mp (hx _ m1 _ m2)
      have z1 : us.toArray[j] = x := by
        have := List.getElem?_eq_some_iff.mp k1
        obtain ⟨_, z⟩ := this
        simpa using z
      have z2 : vs.toArray[j] = y := by
        have := List.getElem?_eq_some_iff.mp k3
        obtain ⟨_, z⟩ := this
        simpa using z
      rw [z1, z2]
      have : aEq (xs.getD j .none) (ys.getD j .none) = c := by unfold aEq; rw [hc]; cases c <;> rfl
      rw [this]
      exact eqA_at hc k2 k4
    · have : us.toArray.size = xs.length := by simp [e1]
      rw [this]
      have e3 : (xs.length == ys.length) = true := by simpa using hz
      rw [e3, Bool.true_and] at h
      exact k _ _ s.heap s.toks σ rfl S h
  · refine SeqAt.RcAt.lists_lengths hL hB (by simp [e1, e2, hz]) (by (first | lia | omega)) prog w _ _ ?_
    have e3 : (xs.length == ys.length) = false := by simpa using hz
    rw [e3, Bool.false_and] at h
    exact k _ _ s.heap s.toks σ rfl S h
/-- tuples of atoms -/
theorem cmp_eq_tup {l b : Addr} {xs ys : List AV} {Q : Bool → Store → Prop} (O : F.Ok K) (hl : σ l = some (.tup xs)) (hb : σ b = some (.tup ys)) (hx : ∀ x ∈ xs, ∀ y ∈ ys, (eqA x y).isSome = true)
    (h : Q ((List.range (min xs.length ys.length)).all (fun j => aEq (xs.getD j .none) (ys.getD j .none)) && xs.length == ys.length) σ) : Cmp prog w F σ m .Eq (.ref l) (.ref b) Q := by
  intro u v ru rv fr s Q' E S k
  cases ru; cases rv
  obtain ⟨us, r, hL⟩ := S.isTup hl
  obtain ⟨vs, q, hB⟩ := S.isTup hb
  have e1 := r.length
  have e2 := q.length
  have hu := unitsOk O
  show wpAny _ _ (richCompare .Eq (.ref l) (.ref b)) _ _ _
  refine SeqAt.RcAt.tuples (e := fun j => aEq (xs.getD j .none) (ys.getD j .none)) hL hB (by (first | lia | omega)) (fun j h1 h2 => ?_) prog w _ _ ?_
  · have h1' : j < xs.length := by simpa [e1] using h1
    have h2' : j < ys.length := by simpa [e2] using h2
    have g1 : xs[j]? = some (xs.getD j .none) := by simp [List.getElem?_eq_getElem h1']
    have g2 : ys[j]? = some (ys.getD j .none) := by simp [List.getElem?_eq_getElem h2']
    obtain ⟨x, k1, k2⟩ := r.get g1
    obtain ⟨y, k3, k4⟩ := q.get g2
    have m1 : xs.getD j .none ∈ xs := List.mem_of_getElem? g1
    have m2 : ys.getD j .none ∈ ys := List.mem_of_getElem? g2
    obtain ⟨c, hc⟩ := Option.isSome_iff_exists.mp (hx _ m1 _ m2)
    have z1 : us.toArray[j] = x := by
      obtain ⟨_, z⟩ := List.getElem?_eq_some_iff.mp k1
      simpa using z
    have z2 : vs.toArray[j] = y := by
      obtain ⟨_, z⟩ := List.getElem?_eq_some_iff.mp k3
      simpa using z
    rw [z1, z2]
    have : aEq (xs.getD j .none) (ys.getD j .none) = c := by unfold aEq; rw [hc]; cases c <;> rfl
    rw [this]
    exact eqA_at hc k2 k4
  · have w1 : us.toArray.size = xs.length := by simp [e1]
    have w2 : vs.toArray.size = ys.length := by simp [e2]
    rw [w1, w2]
    exact k _ _ s.heap s.toks σ rfl S h
/-- lists that hold the same rows -/
theorem cmp_eq_rows {l b : Addr} {xs ys : List AV} {rs : List Row} {Q : Bool → Store → Prop} (O : F.Ok K) (hl : σ l = some (.list xs)) (hb : σ b = some (.list ys)) (hx : RowsA σ xs rs) (hy : RowsA σ ys rs) (h : Q true σ) : Cmp prog w F σ m .Eq (.ref l) (.ref b) Q := by
  intro u v ru rv fr s Q' E S k
  cases ru; cases rv
  obtain ⟨us, r, hL⟩ := S.isList hl
  obtain ⟨vs, q, hB⟩ := S.isList hb
  have e1 := r.length
  have e2 := q.length
  have e3 := hx.length
  have e4 := hy.length
  have hu := unitsOk O
  have H1 := RowsA.toH S r hx
  have H2 := RowsA.toH S q hy
  show wpAny _ _ (richCompare .Eq (.ref l) (.ref b)) _ _ _
  refine SeqAt.RcAt.lists (e := fun _ => true) hL hB (by simp; (first | lia | omega)) (by (first | lia | omega)) (fun j h1 h2 => ?_) prog w _ _ ?_
  · obtain ⟨a, oa, na, ta, ua, va, g1, g2, g3, g4⟩ := H1.get j (by simpa using h1)
    obtain ⟨c, oc, nc, tc, uc, vc, f1, f2, f3, f4⟩ := H2.get j (by simpa using h2)
    have z1 : us.toArray[j] = .ref a := by
      have h1' : j < us.length := by simpa using h1
      rw [← g1]; simp [h1']
    have z2 : vs.toArray[j] = .ref c := by
      have h2' : j < vs.length := by simpa using h2
      rw [← f1]; simp [h2']
    rw [z1, z2]
    by_cases hac : a = c
    · subst hac; exact SeqAt.EqAt.same _
    · refine SeqAt.EqAt.of_refs hac ?_
      have T1 : s.heap.IsTuple a #[.int (rowAt rs j).mark ta, .str (rowAt rs j).kind ua, .str (rowAt rs j).detail va] := ⟨oa, g2, g3, na, g4⟩
      have T2 : s.heap.IsTuple c #[.int (rowAt rs j).mark tc, .str (rowAt rs j).kind uc, .str (rowAt rs j).detail vc] := ⟨oc, f2, f3, nc, f4⟩
      have := SeqAt.RcAt.tuples (A := F.C.A.in1) (s := s) (e := fun _ => true) T1 T2 (by show F.C.A.units + 1 < cLine; (first | lia | omega)) (fun i i1 i2 => by
        match i, i1, i2 with
        | 0, _, _ => have := SeqAt.EqAt.int_int (A := F.C.A.in1.in1) (s := s) (rowAt rs j).mark ta (rowAt rs j).mark tc; simpa using this
        | 1, _, _ => have := SeqAt.EqAt.str_str (A := F.C.A.in1.in1) (s := s) (rowAt rs j).kind ua (rowAt rs j).kind uc; simpa using this
        | 2, _, _ => have := SeqAt.EqAt.str_str (A := F.C.A.in1.in1) (s := s) (rowAt rs j).detail va (rowAt rs j).detail vc; simpa using this
        | n + 3, i1, _ => exact absurd i1 (by simp))
      exact this
  · have : (List.range us.toArray.size).all (fun _ => true) = true := by simp
    rw [this]
    exact k _ _ s.heap s.toks σ rfl S h
noncomputable def isRef : AV → Bool
  | .ref _ => true
  | _ => false
/-- lists that hold the same objects -/
theorem cmp_eq_refs {l b : Addr} {xs : List AV} {Q : Bool → Store → Prop} (O : F.Ok K) (hl : σ l = some (.list xs)) (hb : σ b = some (.list xs)) (hx : ∀ x ∈ xs, isRef x = true) (h : Q true σ) : Cmp prog w F σ m .Eq (.ref l) (.ref b) Q := by
  intro u v ru rv fr s Q' E S k
  cases ru; cases rv
  obtain ⟨us, r, hL⟩ := S.isList hl
  obtain ⟨vs, q, hB⟩ := S.isList hb
  have same : ∀ {xs : List AV} {us vs : List Value}, VRs xs us → VRs xs vs → (∀ x ∈ xs, isRef x = true) → us = vs := by
    intro xs
    induction xs with
    | nil => intro us vs r q _; cases r; cases q; rfl
    | cons x xs ih =>
      intro us vs r q hx
      cases r with
      | cons r rs =>
        cases q with
        | cons q qs =>
          have := hx x (.head _)
          cases r with
          | ref a => cases q; rw [ih rs qs fun y hy => hx y (.tail _ hy)]
          | _ => exact absurd this (by simp [isRef])
  have e := same r q hx
  subst e
  have hu := unitsOk O
  show wpAny _ _ (richCompare .Eq (.ref l) (.ref b)) _ _ _
  refine SeqAt.RcAt.lists (e := fun _ => true) hL hB rfl (by (first | lia | omega)) (fun j h1 h2 => SeqAt.EqAt.same _) prog w _ _ ?_
  have : (List.range us.toArray.size).all (fun _ => true) = true := by simp
  rw [this]
  exact k _ _ s.heap s.toks σ rfl S h

/-! None sought in a dict of strs -/
theorem hash_none : ∃ hn : Int, ∀ {A : Around} {E : Value → Shared → Prop} {s : Shared} {Q : Int → Shared → Prop}, Q hn { s with toks := s.toks + 1 } → wpAny (model prog w) A (pyHash .none) Q E s :=
  ⟨_, fun {A E s Q} h => pyHash_slot (T := "NoneType") rfl F.slot_NoneType_hash F.entry_NoneType_hash (F.args_NoneType_hash_1 _) (beq_builtin_none _) (.inl rfl) (wpAny_bind (wpAny_pure (wpAny_bind (wpAny_mkInt (wpAny_pure ⟨_, _, rfl, h⟩)))))⟩
noncomputable def okIs : Option PySem.Str → Value → Bool
  | none, .none => true
  | some x, v => Value.isStrOf x v
  | _, _ => false
noncomputable def okind (prog : Program) (w : World) : PySem.KeyKind prog w (Option PySem.Str) where
  is := okIs
  hash := fun k => match k with | none => Classical.choose (hash_none (prog := prog) (w := w)) | some x => hashStr w x
  inj := fun v a b h1 h2 => by
    cases a with
    | none =>
      cases v <;> first | cases h1 | skip
      cases b with
      | none => rfl
      | some y => cases h2
    | some x =>
      obtain ⟨t, rfl⟩ := Value.isStrOf_shape h1
      cases b with
      | none => cases h2
      | some y => rw [(strKind prog w).inj (.str x t) x y h1 h2]
  byValue := fun k v h => by
    cases k with
    | none => cases v <;> first | rfl | cases h
    | some x => obtain ⟨t, rfl⟩ := Value.isStrOf_shape h; rfl
  pyHash := fun {A E s k v Q} hv h => by
    cases k with
    | none =>
      cases v <;> first | cases hv | skip
      exact Classical.choose_spec (hash_none (prog := prog) (w := w)) h
    | some x => exact (strKind prog w).pyHash hv h
  eqBool := fun {A E s a b u v Q} hu hv h => by
    cases a with
    | none =>
      cases u <;> first | cases hu | skip
      cases b with
      | none =>
        cases v <;> first | cases hv | skip
        exact SeqAt.EqAt.same _ prog w _ _ (by simpa using h)
      | some y =>
        obtain ⟨t, rfl⟩ := Value.isStrOf_shape hv
        exact SeqAt.EqAt.none_str _ _ prog w _ _ (by simpa using h)
    | some x =>
      obtain ⟨t, rfl⟩ := Value.isStrOf_shape hu
      cases b with
      | none =>
        cases v <;> first | cases hv | skip
        exact SeqAt.EqAt.str_none _ _ prog w _ _ (by simpa using h)
      | some y =>
        refine (strKind prog w).eqBool hu hv ?_
        have : decide (some x = some y) = decide (x = y) := by simp
        rw [this] at h; exact h
  «strs» := fun k x t v h => by
    cases k with
    | none => cases h
    | some y => exact (strKind prog w).«strs» y x t v h
theorem okMap {h : Heap} {d : Addr} {kvs : List (PySem.Str × Value)} (D : h.DictOf (PySem.strKind prog w) d kvs) : ∃ f, h.MapOf (okind prog w) d f ∧ f none = none := by
  obtain ⟨o, es, ep, h1, h2, h3, h4, h5, h6⟩ := D
  refine ⟨findBy okIs es, ⟨o, es, ep, h1, h2, h3, fun e he => ?_, fun k => rfl⟩, ?_⟩
  · obtain ⟨k, a, b⟩ := h4 e he
    exact ⟨some k, a, b⟩
  · unfold findBy
    have : es.find? (fun e => okIs none e.key) = none := by
      rw [Array.find?_eq_none]
      intro e he
      obtain ⟨k, a, b⟩ := h4 e he
      obtain ⟨t, ht⟩ := Value.isStrOf_shape a
      rw [ht]
      simp [okIs]
    rw [this]; rfl
theorem cmp_in_dict_none {d : Addr} {l : List (PySem.Str × AV)} {Q : Bool → Store → Prop} (hd : σ d = some (.dict l)) (h : Q false σ) : Cmp prog w F σ m .In .none (.ref d) Q := by
  intro u v ru rv fr s Q' E S k
  cases rv; cases ru
  obtain ⟨kvs, r, D⟩ := S.isDict hd
  obtain ⟨f, hm, hf⟩ := okMap D
  refine wpAny_in_of (knd := okind prog w) (k := none) rfl (S.notMod hd) hm ?_
  rw [hf]
  exact k _ _ s.heap _ σ rfl S h
end Mine
namespace Mine
variable {prog : Program} {w : World} {K : Frag} {F : Fm} {σ : Store} {m : Loc}

/-- a def of the program within the written part -/
noncomputable def FnK (K : Frag) (f : Addr) (S : Stmt) (qual : PySem.Str) (xs : List PySem.Str) (cd : Value) : Prop :=
  keepIn K (.ref f) = true ∧ codeIn K cd qual = true ∧ ∃ (name : PySem.Str) (params : Arguments) (dV kV doc pm ct oc : Value) (an od : Option Addr) (osl : Array (Option Value)),
    List.lookup f K = some { cls := oc, dict := od, data := Data.func (fnOf name qual params (bodyOf S) (scOf S) dV kV doc pm an cd ct), slots := osl } ∧
    ∀ vs : List Value, vs.length = xs.length → bindArgs (fnOf name qual params (bodyOf S) (scOf S) dV kV doc pm an cd ct) ⟨vs, []⟩ = pure (xs.zip vs)
/-- a name of the module that means a def -/
structure GF (K : Frag) (x : PySem.Str) (S : Stmt) (xs : List PySem.Str) where
  f : Addr
  cd : Value
  ns : nsIn K mainGlobals x = some (some (.ref f))
  fn : FnK K f S x xs cd
/-- a method's def -/
structure MF (K : Frag) (C : Addr) (x qual : PySem.Str) (S : Stmt) (xs : List PySem.Str) where
  f : Addr
  cd : Value
  ok : MOk K C x f
  fn : FnK K f S qual xs cd

/-- what the walks need of the written part -/
structure Kit (K : Frag) where
  len_ : nsIn K mainGlobals (PySem.Str.ofString "len") = some none
  range_ : nsIn K mainGlobals (PySem.Str.ofString "range") = some none
  tuple_ : nsIn K mainGlobals (PySem.Str.ofString "tuple") = some none
  list_ : nsIn K mainGlobals (PySem.Str.ofString "list") = some none
  int_ : nsIn K mainGlobals (PySem.Str.ofString "int") = some none
  abs_ : nsIn K mainGlobals (PySem.Str.ofString "abs") = some none
  sum_ : nsIn K mainGlobals (PySem.Str.ofString "sum") = some none
  sorted_ : nsIn K mainGlobals (PySem.Str.ofString "sorted") = some none
  isinstance_ : nsIn K mainGlobals (PySem.Str.ofString "isinstance") = some none
  Report : Addr
  reportN : nsIn K mainGlobals (PySem.Str.ofString "Report") = some (some (.ref Report))
  reportK : keepIn K (.ref Report) = true
  reportI : Addr
  reportIcd : Value
  reportC : ClsOk K Report reportI
  reportF : FnK K reportI (sub 1 0) (PySem.Str.ofString "Report.__init__") ["self", "names", "nettype"] reportIcd
  reportS : ∀ x ∈ ([PySem.Str.ofString "names", PySem.Str.ofString "nettype", PySem.Str.ofString "rows"] : List PySem.Str), SetOk K Report x ∧ AttrOk K Report x
  reportA : MF K Report (PySem.Str.ofString "add") (PySem.Str.ofString "Report.add") (sub 1 1) ["self", "kind", "at", "detail"]
  NameTable : Addr
  tableN : nsIn K mainGlobals (PySem.Str.ofString "NameTable") = some (some (.ref NameTable))
  tableK : keepIn K (.ref NameTable) = true
  tableI : Addr
  tableIcd : Value
  tableC : ClsOk K NameTable tableI
  tableF : FnK K tableI (sub 2 0) (PySem.Str.ofString "NameTable.__init__") ["self", "parent"] tableIcd
  tableS : ∀ x ∈ ([PySem.Str.ofString "parent", PySem.Str.ofString "entries"] : List PySem.Str), SetOk K NameTable x ∧ AttrOk K NameTable x
  Primitive : Addr
  primN : nsIn K mainGlobals (PySem.Str.ofString "Primitive") = some (some (.ref Primitive))
  primK : keepIn K (.ref Primitive) = true
  primI : Addr
  primIcd : Value
  primC : ClsOk K Primitive primI
  primF : FnK K primI (sub 30 0) (PySem.Str.ofString "Primitive.__init__") ["self", "name", "at", "output", "inputs", "sequential", "init", "rows"] primIcd
  primS : ∀ x ∈ ([PySem.Str.ofString "name", PySem.Str.ofString "at", PySem.Str.ofString "output", PySem.Str.ofString "inputs", PySem.Str.ofString "sequential", PySem.Str.ofString "init", PySem.Str.ofString "rows"] : List PySem.Str), SetOk K Primitive x ∧ AttrOk K Primitive x
  primY : isIn K (.ref Primitive) Primitive = true
  primT : isNotIn K "tuple" Primitive = true
  add_name : GF K (PySem.Str.ofString "add_name") (nth 5) ["report", "table", "name", "what", "at", "info"]
  add_port : GF K (PySem.Str.ofString "add_port") (nth 7) ["report", "table", "name", "at", "direction", "in_routine"]
  declare_item : GF K (PySem.Str.ofString "declare_item") (nth 9) ["report", "table", "item", "in_routine"]
  check_expr : GF K (PySem.Str.ofString "check_expr") (nth 10) ["report", "table", "e"]
  check_optional : GF K (PySem.Str.ofString "check_optional") (nth 12) ["report", "table", "e"]
  check_range : GF K (PySem.Str.ofString "check_range") (nth 13) ["report", "table", "bounds"]
  check_declaration : GF K (PySem.Str.ofString "check_declaration") (nth 16) ["report", "table", "item"]
  level_codes : GF K (PySem.Str.ofString "level_codes") (nth 31) ["symbol"]
  is_edge : GF K (PySem.Str.ofString "is_edge") (nth 32) ["symbol"]
  edge_pairs : GF K (PySem.Str.ofString "edge_pairs") (nth 33) ["symbol"]
  edge_place : GF K (PySem.Str.ofString "edge_place") (nth 34) ["row"]
  edge_count : GF K (PySem.Str.ofString "edge_count") (nth 35) ["row"]
  check_primitive : GF K (PySem.Str.ofString "check_primitive") (nth 36) ["p"]
  row_faults : GF K (PySem.Str.ofString "row_faults") (nth 37) ["p", "row"]
  rows_conflict : GF K (PySem.Str.ofString "rows_conflict") (nth 38) ["u", "v"]
  share : GF K (PySem.Str.ofString "share") (nth 39) ["left", "right"]
  out_code : GF K (PySem.Str.ofString "out_code") (nth 40) ["out", "state"]
  declare_items : GF K (PySem.Str.ofString "declare_items") (nth 42) ["report", "table", "items"]
  declare_implicit : GF K (PySem.Str.ofString "declare_implicit") (nth 44) ["table", "item"]
  add_implicit : GF K (PySem.Str.ofString "add_implicit") (nth 45) ["table", "e"]
  check_items : GF K (PySem.Str.ofString "check_items") (nth 46) ["report", "table", "items"]
  check_instance : GF K (PySem.Str.ofString "check_instance") (nth 51) ["report", "table", "item"]
  check_module : GF K (PySem.Str.ofString "check_module") (nth 52) ["module", "names"]
  is_port : GF K (PySem.Str.ofString "is_port") (nth 53) ["entry"]
  in_order : GF K (PySem.Str.ofString "in_order") (nth 54) ["rows"]
  check_source : GF K (PySem.Str.ofString "check_source") (nth 55) ["modules"]
  law_feed : GF K (PySem.Str.ofString "_law_feed") (nth 57) ["script"]
  law_pick : GF K (PySem.Str.ofString "_law_pick") (nth 58) ["feed", "many"]
  law_port : GF K (PySem.Str.ofString "_law_port") (nth 59) ["mark", "name"]
  law_instance : GF K (PySem.Str.ofString "_law_instance") (nth 60) ["mark", "unit", "name", "ends"]
  law_module : GF K (PySem.Str.ofString "_law_module") (nth 61) ["feed", "mark", "name"]
  law_tables : GF K (PySem.Str.ofString "_law_tables") (nth 62) []
  law_primitive_faults : GF K (PySem.Str.ofString "_law_primitive_faults") (nth 63) ["unit", "which"]
  law_module_faults : GF K (PySem.Str.ofString "_law_module_faults") (nth 64) ["unit", "first_ports"]
  tabP : Addr
  tabC : Addr
  tabE : in_order.cd = .ref tabC
  tabH : codeHdIn K tabC tabP = true

/-- a def called: its body walked -/
theorem callK {f : Addr} {S : Stmt} {qual : PySem.Str} {xs : List PySem.Str} {cd : Value} {as : List AV} {Q : AV → Store → Prop} (g : FnK K f S qual xs cd) (O : F.Ok K) (hd : 1 ≤ F.C.d)
    (h : ∀ c : Fn, (c.fm (scOf S) none).Ok K → c.C.d + 1 = F.C.d → c.cd = cd ∧ c.q = qual ∧ (∀ b o, F.C.h₀.get? b = some o → c.C.h₀.get? b = some o) → Ex prog w (c.fm (scOf S) none) σ (xs.zip as) (bodyOf S) fun fl σ' _ => Q (retOf fl) σ')
    (hn : as.length = xs.length := by rfl) (hnd : xs.Nodup := by decide) (hl : (xs.all fun x => (scOf S).names.lookup x == some .local) = true := by rfl) (hcell : ((scOf S).names.all fun x => x.2 != .cell) = true := by rfl)
    (h1 : (scOf S).isCoroutine = false := by rfl) (h2 : (scOf S).isGenerator = false := by rfl) (h3 : (scOf S).kind = .function := by rfl) : CallF prog w F σ m f as Q := by
  obtain ⟨_, hc, name, params, dV, kV, doc, pm, ct, oc, an, od, osl, hK, hb⟩ := g
  exact call_fn xs O hd hK hc hb hn hnd hl hcell h1 h2 h3 h
theorem codeK {f : Addr} {S : Stmt} {qual : PySem.Str} {xs : List PySem.Str} {cd : Value} {as : List AV} {Q : AV → Store → Prop} (g : FnK K f S qual xs cd) (O : F.Ok K) (hd : 1 ≤ F.C.d)
    (h : ∀ c : Fn, (c.fm (scOf S) none).Ok K → c.C.d + 1 = F.C.d → c.cd = cd ∧ c.q = qual ∧ (∀ b o, F.C.h₀.get? b = some o → c.C.h₀.get? b = some o) → Ex prog w (c.fm (scOf S) none) σ (xs.zip as) (bodyOf S) fun fl σ' _ => Q (retOf fl) σ')
    (hn : as.length = xs.length := by rfl) (hnd : xs.Nodup := by decide) (hl : (xs.all fun x => (scOf S).names.lookup x == some .local) = true := by rfl) (hcell : ((scOf S).names.all fun x => x.2 != .cell) = true := by rfl)
    (h1 : (scOf S).isCoroutine = false := by rfl) (h2 : (scOf S).isGenerator = false := by rfl) (h3 : (scOf S).kind = .function := by rfl) : CodeF prog w F σ m f as Q := by
  obtain ⟨_, hc, name, params, dV, kV, doc, pm, ct, oc, an, od, osl, hK, hb⟩ := g
  exact fun vs rs fr s R S' k => code_fn xs O hd hK hc hb hn hnd hl hcell h1 h2 h3 h rs S' k
theorem callKC {f : Addr} {S : Stmt} {qual : PySem.Str} {xs : List PySem.Str} {cd : Value} {as : List AV} {Q : AV → Store → Prop} (x : PySem.Str) (g : FnK K f S qual xs cd) (O : F.Ok K) (hd : 1 ≤ F.C.d)
    (h : ∀ (c : Fn) (ca : Addr), (c.fm (scOf S) (some (x, ca))).Ok K → c.C.d + 1 = F.C.d → Ex prog w (c.fm (scOf S) (some (x, ca))) σ (xs.zip as) (bodyOf S) fun fl σ' _ => Q (retOf fl) σ')
    (hn : as.length = xs.length := by rfl) (hnd : xs.Nodup := by decide) (hl : (xs.all fun y => if y = x then (scOf S).names.lookup y == some .cell else (scOf S).names.lookup y == some .local) = true := by rfl)
    (hcell : ∀ n, cellsFrom n (scOf S).names [] = [(x, n)] := by intro _; rfl)
    (h1 : (scOf S).isCoroutine = false := by rfl) (h2 : (scOf S).isGenerator = false := by rfl) (h3 : (scOf S).kind = .function := by rfl) : CallF prog w F σ m f as Q := by
  obtain ⟨_, hc, name, params, dV, kV, doc, pm, ct, oc, an, od, osl, hK, hb⟩ := g
  exact call_fnC xs x O hd hK hc hb hn hnd hl hcell h1 h2 h3 h
/-- the call of a def by its name -/
theorem ev_callG {x : PySem.Str} {S : Stmt} {xs : List PySem.Str} {xp pos : Pos} {e : PySem.Expr} {rest : List PySem.Expr} {Q : AV → Store → Prop} (g : GF K x S xs) (O : F.Ok K) (h : EvL prog w F σ m (e :: rest) (cfQ prog w F m g.f Q))
    (hl : F.env.kindOf x = some .globalImplicit := by rfl) (hd : (x == ("__debug__" : PySem.Str)) = false := by rfl)
    (h1 : eval (.Call (.Name x xp) (e :: rest) [] pos) F.env = (do let f ← eval (.Name x xp) F.env; callWith pos f [] (backTo pos (starEach (e :: rest) F.env)) (backToKw pos (keywordEach [] F.env))) := by rfl)
    (h2 : starEach (e :: rest) F.env = (false, eval e F.env) :: starEach rest F.env := by rfl) (h3 : ((backTo pos (starEach rest F.env)).any fun x => x.fst) = false := by rfl) : Ev prog w F σ m (.Call (.Name x xp) (e :: rest) [] pos) Q :=
  ev_callF O g.ns g.fn.1 h hl hd h1 h2 h3

theorem dp {a b n k : Nat} (hc : a + 1 = b) (hd : n ≤ b) (h : k + 1 ≤ n) : k ≤ a := by (first | lia | omega)
theorem get_put_same {x : PySem.Str} {v : AV} : get x (put x v m) = some v := by rw [get_put, if_pos rfl]
theorem get_put_ne {x y : PySem.Str} {v : AV} {o : Option AV} (h : y ≠ x) (e : get y m = o) : get y (put x v m) = o := by rw [get_put, if_neg h]; exact e
/-! the store's changes -/
noncomputable def Chg (S : Addr → Prop) (σ σ' : Store) : Prop := ∀ a o, ¬ S a → σ a = some o → σ' a = some o
theorem Chg.refl (S : Addr → Prop) (σ : Store) : Chg S σ σ := fun _ _ _ e => e
theorem Chg.trans {S : Addr → Prop} {σ₁ σ₂ σ₃ : Store} (h1 : Chg S σ₁ σ₂) (h2 : Chg S σ₂ σ₃) : Chg S σ₁ σ₃ := fun a o n e => h2 a o n (h1 a o n e)
theorem Chg.new {S : Addr → Prop} {a : Addr} {o : AO} (h : σ a = none) : Chg S σ (upd σ a o) := fun b o' _ e => by
  unfold upd
  rw [if_neg (fun z => by rw [z, h] at e; cases e)]; exact e
theorem Chg.at {S : Addr → Prop} {a : Addr} {o : AO} (h : S a) : Chg S σ (upd σ a o) := fun b o' n e => by
  unfold upd
  rw [if_neg (fun z : b = a => n (by rw [z]; exact h))]; exact e
theorem Chg.weak {S S' : Addr → Prop} {σ σ' : Store} (hs : ∀ a, S a → S' a) (h : Chg S σ σ') : Chg S' σ σ' := fun a o n e => h a o (fun z => n (hs a z)) e
theorem upd_self {a : Addr} {o : AO} : upd σ a o a = some o := if_pos rfl
theorem upd_old {a b : Addr} {o : AO} {o' : Option AO} (h : b ≠ a) (e : σ b = o') : upd σ a o b = o' := by unfold upd; rw [if_neg h]; exact e
theorem upd_new {a b : Addr} {o o' : AO} (h : σ a = none) (e : σ b = some o') : upd σ a o b = some o' := upd_old (fun z => by rw [z, h] at e; cases e) e
theorem ne_of {a b : Addr} {o : AO} (h : σ a = some o) (h' : σ b = none) : a ≠ b := fun z => by rw [z, h'] at h; cases h
theorem ne_of' {a b : Addr} {o o' : AO} (h : σ a = some o) (h' : σ b = some o') (n : o ≠ o') : a ≠ b := fun z => by rw [z, h'] at h; cases h; exact n rfl
end Mine
namespace Mine
variable {prog : Program} {w : World} {K : Frag} {F : Fm} {σ : Store} {m : Loc}
/-! the walk's steps -/
local macro_rules
  | `(tactic| walk_at "S") => `(tactic| first
    | assumption
    | exact upd_self
    | (refine upd_new (by assumption) ?_; walk_at "S")
    | (refine upd_old (by walk_at "N") ?_; walk_at "S"))
local macro_rules
  | `(tactic| walk_at "N") => `(tactic| first
    | assumption
    | (apply Ne.symm; assumption)
    | exact ne_of (by walk_at "S") (by assumption)
    | exact Ne.symm (ne_of (by walk_at "S") (by assumption))
    | exact ne_of' (by walk_at "S") (by walk_at "S") (by intro h; cases h))
local macro_rules
  | `(tactic| walk_at "G") => `(tactic| first
    | rfl
    | assumption
    | exact get_put_same
    | (refine get_put_ne (by decide) ?_; walk_at "G"))
local macro_rules
  | `(tactic| walk_at "C") => `(tactic| first
    | ((with_reducible show (_ = true → _) ∧ (_ = false → _)); first
      | refine ⟨fun h => absurd h (by decide), fun _ => ?_⟩
      | refine ⟨fun _ => ?_, fun h => absurd h (by decide)⟩
      | refine ⟨fun _ => ?_, fun h => absurd h (show ¬ (true = false) by decide)⟩
      | refine ⟨fun h => absurd h (show ¬ (false = true) by decide), fun _ => ?_⟩)
    | ((with_reducible show ∃ b, AV.bool _ = AV.bool b ∧ _); refine ⟨_, rfl, ?_⟩))
local macro_rules
  | `(tactic| walk_at "1") => `(tactic| first
    | ((with_reducible show Ex1 _ _ _ _ _ (Stmt.Return (some _) _) _); refine ex_ret ?_)
    | ((with_reducible show Ex1 _ _ _ _ _ (Stmt.Return none _) _); refine ex_ret0 ?_)
    | ((with_reducible show Ex1 _ _ _ _ _ (Stmt.If _ _ _ _) _); refine ex_if ?_)
    | ((with_reducible show Ex1 _ _ _ _ _ (Stmt.Expr _ _) _); refine ex_expr ?_)
    | ((with_reducible show Ex1 _ _ _ _ _ (Stmt.Continue _) _); refine ex_continue ?_)
    | ((with_reducible show Ex1 _ _ _ _ _ (Stmt.Break _) _); refine ex_break ?_)
    | ((with_reducible show Ex1 _ _ _ _ _ (Stmt.Assign [Expr.Name _ _] _ _) _); refine ex_assign ?_)
    | ((with_reducible show Ex _ _ _ _ _ (_ :: _) _); refine ex_cons ?_)
    | ((with_reducible show Ex _ _ _ _ _ [] _); refine ex_nil ?_)
    | ((with_reducible show Ev _ _ _ _ _ (Expr.Name _ _) _); refine ev_local (by walk_at "G") ?_)
    | ((with_reducible show Ev _ _ _ _ _ (Expr.Constant (Const.str _) _ _) _); refine ev_str ?_)
    | ((with_reducible show Ev _ _ _ _ _ (Expr.Constant (Const.int _) _ _) _); refine ev_int ?_)
    | ((with_reducible show Ev _ _ _ _ _ (Expr.Constant (Const.bool _) _ _) _); refine ev_bool ?_)
    | ((with_reducible show Ev _ _ _ _ _ (Expr.Constant Const.none _ _) _); refine ev_none ?_)
    | ((with_reducible show Ev _ _ _ _ _ (Expr.Tuple _ _ _) _); refine ev_tuple ?_)
    | ((with_reducible show Ev _ _ _ _ _ (Expr.List _ _) _); refine ev_list ?_)
    | ((with_reducible show Ev _ _ _ _ _ (Expr.Subscript _ (Expr.Constant _ _ _) _) _); refine ev_sub ?_)
    | ((with_reducible show Ev _ _ _ _ _ (Expr.Subscript _ (Expr.Name _ _) _) _); refine ev_sub ?_)
    | ((with_reducible show Ev _ _ _ _ _ (Expr.Subscript _ (Expr.Subscript _ _ _) _) _); refine ev_sub ?_)
    | ((with_reducible show Ev _ _ _ _ _ (Expr.Compare _ [_] [_] _) _); refine ev_cmp ?_)
    | ((with_reducible show Ev _ _ _ _ _ (Expr.BinOp _ _ _ _) _); refine ev_bin ?_)
    | ((with_reducible show EvL _ _ _ _ _ (_ :: _) _); refine evl_cons ?_)
    | ((with_reducible show EvL _ _ _ _ _ [] _); refine evl_nil ?_)
    | ((with_reducible show Ts _ _ _ _ _ (Expr.Compare _ [_] [_] _) _); refine ts_cmp ?_)
    | ((with_reducible show Ts _ _ _ _ _ (Expr.UnaryOp UnaryOp.Not _ _) _); refine ts_not ?_)
    | ((with_reducible show Ts _ _ _ _ _ (Expr.BoolOp BoolOp.And [_, _] _) _); refine ts_and ?_)
    | ((with_reducible show Ts _ _ _ _ _ (Expr.BoolOp BoolOp.Or [_, _] _) _); refine ts_or ?_)
    | ((with_reducible show Ts _ _ _ _ _ (Expr.Name _ _) _); refine ts_value ?_)
    | ((with_reducible show Ts _ _ _ _ _ (Expr.Subscript _ _ _) _); refine ts_value ?_)
    | ((with_reducible show Ts _ _ _ _ _ (Expr.Call _ _ _ _) _); refine ts_value ?_)
    | ((with_reducible show Cmp _ _ _ _ _ CmpOp.Eq (AV.str _) (AV.str _) _); refine cmp_eq_str ?_)
    | ((with_reducible show Cmp _ _ _ _ _ CmpOp.NotEq (AV.str _) (AV.str _) _); refine cmp_ne_str ?_)
    | ((with_reducible show Cmp _ _ _ _ _ CmpOp.Eq (AV.int _) (AV.int _) _); refine cmp_eq_int ?_)
    | ((with_reducible show Cmp _ _ _ _ _ CmpOp.Is _ AV.none _); refine cmp_is_none ?_)
    | ((with_reducible show Cmp _ _ _ _ _ CmpOp.IsNot _ AV.none _); refine cmp_isnot_none ?_)
    | ((with_reducible show Cmp _ _ _ _ _ CmpOp.In (AV.str _) (AV.ref _) _); first
      | refine cmp_in_tup (by walk_at "S") (by simp [eqA]) ?_
      | refine cmp_in_dict (by walk_at "S") ?_)
    | ((with_reducible show Cmp _ _ _ _ _ CmpOp.NotIn (AV.str _) (AV.ref _) _); first
      | refine cmp_notin_tup (by walk_at "S") (by simp [eqA]) ?_
      | refine cmp_notin_dict (by walk_at "S") ?_)
    | ((with_reducible show (_ ≤ small) ∧ (∀ a : Addr, _ = none → _)); refine ⟨Nat.le_of_ble_eq_true rfl, fun _ _ => ?_⟩)
    | ((with_reducible show ∀ (u v : Value), VR _ u → VR _ v → Tr VR _ _ _ _ _ (subscriptTail _ _ u v) _); first
      | refine subq_tup (by walk_at "S") (by decide) (by decide) (by rfl) ?_
      | refine subq_list (by walk_at "S") (by decide) (by decide) (by rfl) ?_))

local macro_rules
  | `(tactic| walk_at "W") => `(tactic| repeat (first | walk_at "1" | walk_at "C"))

/-- an entry of a name table -/
inductive EntA (σ : Store) : AV → Bool → Prop
  | net {a b : Addr} {at_ : Int} {dir : PySem.Str} {x : Bool} : σ a = some (.tup [.str "net", .int at_, .ref b]) → σ b = some (.tup [.str dir, .bool true, .bool x]) → EntA σ (.ref a) true
  | inst {a : Addr} {at_ : Int} : σ a = some (.tup [.str "instance", .int at_, .int (-1)]) → EntA σ (.ref a) false

theorem is_port_spec (k : Kit K) (O : F.Ok K) (hd : 1 ≤ F.C.d) {v : AV} {b : Bool} (h : EntA σ v b) : CallF prog w F σ m k.is_port.f [v] fun r σ' => r = .bool b ∧ Chg (fun _ => False) σ σ' := by
  refine callK k.is_port.fn O hd fun c Oc _ _ => ?_
  refine letQ ?_
  intro Qf
  refine ex_cons (ex_ret (ev_and ?_))
  cases h with
  | net h1 h2 =>
    walk_at "W"
    exact ⟨rfl, Chg.new (by assumption)⟩
  | inst h1 =>
    walk_at "W"
    exact ⟨rfl, Chg.new (by assumption)⟩
theorem add_spec (k : Kit K) (O : F.Ok K) (hd : 1 ≤ F.C.d) {R Rd L : Addr} {nm nt : AV} {xs : List AV} {kind : PySem.Str} {at_ : Int} {d : AV} {Q : AV → Store → Prop} (h1 : σ R = some (.inst k.Report Rd)) (h2 : σ Rd = some (.idict [("names", nm), ("nettype", nt), ("rows", .ref L)])) (h3 : σ L = some (.list xs)) (hz : xs.length ≤ small)
    (h : ∀ a, σ a = none → Q .none (upd (upd σ a (.tup [.str kind, .int at_, d])) L (.list (xs ++ [.ref a])))) : CallF prog w F σ m k.reportA.f [.ref R, .str kind, .int at_, d] Q := by
  refine callK k.reportA.fn O hd fun c Oc _ _ => ?_
  refine letQ ?_
  intro Qf
  refine ex_cons (ex_expr (ev_meth1 (ev_attr Oc (ev_local rfl ⟨R, k.Report, Rd, _, .ref L, rfl, h1, h2, rfl, rfl, (k.reportS "rows" (by decide)).2, "list.append", m_append h3, ?_⟩))))
  walk_at "W"
  refine b_append (by walk_at "S") hz ?_
  refine ex_nil (h _ ?_)
  assumption

theorem report_spec (k : Kit K) (O : F.Ok K) (hd : 2 ≤ F.C.d) {nm nt : AV} {Q : AV → Store → Prop}
    (h : ∀ R Rd L σ', σ R = none → σ Rd = none → σ L = none → Chg (fun _ => False) σ σ' → σ' R = some (.inst k.Report Rd) → σ' Rd = some (.idict [("names", nm), ("nettype", nt), ("rows", .ref L)]) → σ' L = some (.list []) → Q (.ref R) σ') : CallF prog w F σ m k.Report [nm, nt] Q := by
  refine b_class O k.reportC fun rest x dx hxd hd0 hx0 => ?_
  refine codeK k.reportF (O.under (by (first | lia | omega))) (by show 1 ≤ F.C.d - 1; (first | lia | omega)) fun c Oc _ _ => ?_
  refine letQ ?_
  intro Qf
  have hx1 : upd (upd σ dx (.idict [])) x (.inst k.Report dx) x = some (.inst k.Report dx) := upd_self
  have hd1 : upd (upd σ dx (.idict [])) x (.inst k.Report dx) dx = some (.idict []) := upd_old (Ne.symm hxd) upd_self
  refine ex_cons (ex_assign_attr Oc (ev_local rfl (ev_local rfl ⟨x, k.Report, dx, _, rfl, hx1, hd1, by simp, (k.reportS "names" (by decide)).1, ?_⟩)))
  refine ex_cons (ex_assign_attr Oc (ev_local rfl (ev_local rfl ⟨x, k.Report, dx, _, rfl, upd_old hxd hx1, upd_self, Nat.le_of_ble_eq_true rfl, (k.reportS "nettype" (by decide)).1, ?_⟩)))
  refine ex_cons (ex_assign_attr Oc (ev_list (evl_nil ⟨by decide, fun L hL => ev_local rfl ⟨x, k.Report, dx, _, rfl, upd_new hL (upd_old hxd (upd_old hxd hx1)), upd_new hL upd_self, Nat.le_of_ble_eq_true rfl, (k.reportS "rows" (by decide)).1, ?_⟩⟩)))
  have hLx : L ≠ x := fun z => by rw [z, upd_old hxd (upd_old hxd hx1)] at hL; cases hL
  have hLd : L ≠ dx := fun z => by rw [z, upd_self] at hL; cases hL
  have hL0 : σ L = none := by
    unfold upd at hL
    rw [if_neg hLd, if_neg hLd, if_neg hLx, if_neg hLd] at hL
    exact hL
  refine ex_nil ⟨rfl, h x dx L _ hx0 hd0 hL0 ?_ ?_ ?_ ?_⟩
  · intro a o _ e
    have n1 : a ≠ x := ne_of e hx0
    have n2 : a ≠ dx := ne_of e hd0
    have n3 : a ≠ L := ne_of e hL0
    exact upd_old n2 (upd_old n3 (upd_old n2 (upd_old n2 (upd_old n1 (upd_old n2 e)))))
  · exact upd_old hxd (upd_new hL (upd_old hxd (upd_old hxd hx1)))
  · rw [upd_self]; rfl
  · exact upd_old hLd upd_self

theorem table_spec (k : Kit K) (O : F.Ok K) (hd : 2 ≤ F.C.d) {pv : AV} {Q : AV → Store → Prop}
    (h : ∀ R Rd L σ', σ R = none → σ Rd = none → σ L = none → Chg (fun _ => False) σ σ' → σ' R = some (.inst k.NameTable Rd) → σ' Rd = some (.idict [("parent", pv), ("entries", .ref L)]) → σ' L = some (.dict []) → Q (.ref R) σ') : CallF prog w F σ m k.NameTable [pv] Q := by
  refine b_class O k.tableC fun rest x dx hxd hd0 hx0 => ?_
  refine codeK k.tableF (O.under (by (first | lia | omega))) (by show 1 ≤ F.C.d - 1; (first | lia | omega)) fun c Oc _ _ => ?_
  refine letQ ?_
  intro Qf
  have hx1 : upd (upd σ dx (.idict [])) x (.inst k.NameTable dx) x = some (.inst k.NameTable dx) := upd_self
  have hd1 : upd (upd σ dx (.idict [])) x (.inst k.NameTable dx) dx = some (.idict []) := upd_old (Ne.symm hxd) upd_self
  refine ex_cons (ex_assign_attr Oc (ev_local rfl (ev_local rfl ⟨x, k.NameTable, dx, _, rfl, hx1, hd1, by simp, (k.tableS "parent" (by decide)).1, ?_⟩)))
  refine ex_cons (ex_assign_attr Oc (ev_dict0 fun L hL => ev_local rfl ⟨x, k.NameTable, dx, _, rfl, upd_new hL (upd_old hxd hx1), upd_new hL upd_self, Nat.le_of_ble_eq_true rfl, (k.tableS "entries" (by decide)).1, ?_⟩))
  have hLx : L ≠ x := fun z => by rw [z, upd_old hxd hx1] at hL; cases hL
  have hLd : L ≠ dx := fun z => by rw [z, upd_self] at hL; cases hL
  have hL0 : σ L = none := by
    unfold upd at hL
    rw [if_neg hLd, if_neg hLx, if_neg hLd] at hL
    exact hL
  refine ex_nil ⟨rfl, h x dx L _ hx0 hd0 hL0 ?_ ?_ ?_ ?_⟩
  · intro a o _ e
    have n1 : a ≠ x := ne_of e hx0
    have n2 : a ≠ dx := ne_of e hd0
    have n3 : a ≠ L := ne_of e hL0
    exact upd_old n2 (upd_old n3 (upd_old n2 (upd_old n1 (upd_old n2 e))))
  · exact upd_old hxd (upd_new hL (upd_old hxd hx1))
  · rw [upd_self]; rfl
  · exact upd_old hLd upd_self
/-! what does not change, and what may -/
noncomputable def Imm : AO → Bool
  | .list _ => false
  | .dict _ => false
  | .tab _ => false
  | _ => true
noncomputable def Leq (σ σ' : Store) : Prop := ∀ a o, Imm o = true → σ a = some o → σ' a = some o
structure Stp (S : Addr → Prop) (σ σ' : Store) : Prop where
  leq : Leq σ σ'
  chg : Chg S σ σ'
theorem Stp.refl (S : Addr → Prop) (σ : Store) : Stp S σ σ := ⟨fun _ _ _ e => e, Chg.refl S σ⟩
theorem Stp.trans {S : Addr → Prop} {σ₁ σ₂ σ₃ : Store} (h1 : Stp S σ₁ σ₂) (h2 : Stp S σ₂ σ₃) : Stp S σ₁ σ₃ := ⟨fun a o i e => h2.leq a o i (h1.leq a o i e), h1.chg.trans h2.chg⟩
theorem Stp.new {S : Addr → Prop} {a : Addr} {o : AO} (h : σ a = none) : Stp S σ (upd σ a o) := ⟨fun b o' _ e => upd_new h e, Chg.new h⟩
theorem Stp.at {S : Addr → Prop} {a : Addr} {o o' : AO} (h : S a) (e : σ a = some o') (hi : Imm o' = false) : Stp S σ (upd σ a o) := ⟨fun b o₂ i e₂ => upd_old (fun z => by rw [z, e] at e₂; cases e₂; rw [hi] at i; cases i) e₂, Chg.at h⟩
theorem Stp.weak {S S' : Addr → Prop} {σ σ' : Store} (hs : ∀ a, S a → S' a) (h : Stp S σ σ') : Stp S' σ σ' := ⟨h.leq, h.chg.weak hs⟩
theorem Stp.of {S : Addr → Prop} {σ σ' : Store} (h : Chg (fun _ => False) σ σ') : Stp S σ σ' := ⟨fun a o _ e => h a o (fun z => z) e, h.weak fun _ z => z.elim⟩
theorem Stp.newThen {S : Addr → Prop} {σ σ₂ : Store} {a : Addr} {o : AO} (h : σ a = none) (h2 : Stp S (upd σ a o) σ₂) : Stp S σ σ₂ := (Stp.new h).trans h2
theorem RowsK.leq {σ' : Store} (hs : Leq σ σ') {xs : List AV} {rs : List Row} (h : RowsK σ xs rs) : RowsK σ' xs rs := by
  induction h with
  | nil => exact .nil
  | cons e _ ih => exact .cons (hs _ _ rfl e) ih
theorem RowsK.snoc {xs : List AV} {rs : List Row} {a : Addr} {r : Row} (h : RowsK σ xs rs) (e : σ a = some (.tup [.str r.kind, .int r.mark, .str r.detail])) : RowsK σ (xs ++ [.ref a]) (rs ++ [r]) := by
  induction h with
  | nil => exact .cons e .nil
  | cons e' _ ih => exact .cons e' ih
theorem EntA.leq {σ' : Store} (hs : Leq σ σ') {v : AV} {b : Bool} (h : EntA σ v b) : EntA σ' v b := by
  cases h with
  | net h1 h2 => exact .net (hs _ _ rfl h1) (hs _ _ rfl h2)
  | inst h1 => exact .inst (hs _ _ rfl h1)

/-- a report, with its rows -/
structure Rep (k : Kit K) (σ : Store) (R L : Addr) (nm : AV) (rows : List Row) : Prop where
  obj : ∃ Rd, σ R = some (.inst k.Report Rd) ∧ σ Rd = some (.idict [("names", nm), ("nettype", .str "wire"), ("rows", .ref L)])
  lst : ∃ xs, σ L = some (.list xs) ∧ RowsK σ xs rows
/-- a name table, with what it holds: a port or an instance -/
structure Tbl (k : Kit K) (σ : Store) (T E : Addr) (em : PySem.Str → Option Bool) (n : Nat) : Prop where
  obj : ∃ Td pv, σ T = some (.inst k.NameTable Td) ∧ σ Td = some (.idict [("parent", pv), ("entries", .ref E)])
  dct : ∃ es, σ E = some (.dict es) ∧ es.length ≤ n ∧ ∀ x, (get x es = none ∧ em x = none) ∨ ∃ v b, get x es = some v ∧ em x = some b ∧ EntA σ v b
theorem Rep.keep {k : Kit K} {σ' : Store} {R L : Addr} {nm : AV} {rows : List Row} (h : Rep k σ R L nm rows) (hs : Leq σ σ') (hl : σ' L = σ L) : Rep k σ' R L nm rows := by
  obtain ⟨⟨Rd, h1, h2⟩, xs, h3, h4⟩ := h
  exact ⟨⟨Rd, hs _ _ rfl h1, hs _ _ rfl h2⟩, xs, hl.trans h3, h4.leq hs⟩
theorem Tbl.keep {k : Kit K} {σ' : Store} {T E : Addr} {em : PySem.Str → Option Bool} {n : Nat} (h : Tbl k σ T E em n) (hs : Leq σ σ') (hl : σ' E = σ E) : Tbl k σ' T E em n := by
  obtain ⟨⟨Td, pv, h1, h2⟩, es, h3, h4, h5⟩ := h
  refine ⟨⟨Td, pv, hs _ _ rfl h1, hs _ _ rfl h2⟩, es, hl.trans h3, h4, fun x => ?_⟩
  rcases h5 x with h | ⟨v, b, e1, e2, e3⟩
  · exact .inl h
  · exact .inr ⟨v, b, e1, e2, e3.leq hs⟩
theorem Stp.keepAt {S : Addr → Prop} {σ σ' : Store} (h : Stp S σ σ') {a : Addr} {o : AO} (n : ¬ S a) (e : σ a = some o) : σ' a = σ a := by rw [h.chg a o n e, e]
theorem put_length (x : PySem.Str) (v : AV) : ∀ l : Loc, (put x v l).length ≤ l.length + 1
  | [] => by simp [put]
  | (y, u) :: l => by
    unfold put
    split
    · simp
    · simpa using put_length x v l

/-- a row told -/
theorem tell (k : Kit K) (O : F.Ok K) (hd : 1 ≤ F.C.d) {R L : Addr} {nm : AV} {rows : List Row} {r : Row} {S : Addr → Prop} (h : Rep k σ R L nm rows) (hS : S L) (hz : rows.length ≤ small) : CallF prog w F σ m k.reportA.f [.ref R, .str r.kind, .int r.mark, .str r.detail] fun v σ' =>
    v = .none ∧ Stp S σ σ' ∧ Rep k σ' R L nm (rows ++ [r]) ∧ ∀ a o, a ≠ L → σ a = some o → σ' a = some o := by
  obtain ⟨⟨Rd, h1, h2⟩, xs, h3, h4⟩ := h
  refine add_spec k O hd h1 h2 h3 (by rw [h4.length]; exact hz) fun a ha => ?_
  have haL : a ≠ L := fun z => by rw [z, h3] at ha; cases ha
  have hne : ∀ {b o}, σ b = some o → b ≠ a := fun e => ne_of e ha
  have up : ∀ b o, b ≠ L → σ b = some o → upd (upd σ a (.tup [.str r.kind, .int r.mark, .str r.detail])) L (.list (xs ++ [.ref a])) b = some o := fun b o n e => upd_old n (upd_old (hne e) e)
  have st : Stp S σ (upd (upd σ a (.tup [.str r.kind, .int r.mark, .str r.detail])) L (.list (xs ++ [.ref a]))) := (Stp.new ha).trans (Stp.at hS (upd_new ha h3) rfl)
  refine ⟨rfl, st, ⟨⟨Rd, up _ _ (ne_of' h1 h3 (by intro h; cases h)) h1, up _ _ (ne_of' h2 h3 (by intro h; cases h)) h2⟩, _, upd_self, ?_⟩, up⟩
  exact (h4.leq st.leq).snoc (upd_old haL upd_self)

noncomputable def emPut (em : PySem.Str → Option Bool) (x : PySem.Str) (b : Bool) : PySem.Str → Option Bool := fun y => if y = x then some b else em y
theorem Tbl.put {k : Kit K} {σ₂ : Store} {T E a : Addr} {em : PySem.Str → Option Bool} {n : Nat} {es : Loc} {x : PySem.Str} {b : Bool} (h : Tbl k σ T E em n) (he : σ E = some (.dict es)) (hs : Leq σ σ₂) (ev : EntA σ₂ (.ref a) b) (hE : σ₂ E = some (.dict (Mine.put x (.ref a) es))) : Tbl k σ₂ T E (emPut em x b) (n + 1) := by
  obtain ⟨⟨Td, pv, h1, h2⟩, es', h3, h4, h5⟩ := h
  rw [he] at h3; cases h3
  refine ⟨⟨Td, pv, hs _ _ rfl h1, hs _ _ rfl h2⟩, _, hE, Nat.le_trans (put_length _ _ _) (by (first | lia | omega)), fun y => ?_⟩
  unfold emPut
  rw [get_put]
  by_cases q : y = x
  · rw [if_pos q, if_pos q]; exact .inr ⟨_, _, rfl, rfl, ev⟩
  · rw [if_neg q, if_neg q]
    rcases h5 y with h | ⟨v, b, e1, e2, e3⟩
    · exact .inl h
    · exact .inr ⟨v, b, e1, e2, e3.leq hs⟩

theorem ev_entries (k : Kit K) (O : F.Ok K) {T E : Addr} {em : PySem.Str → Option Bool} {n : Nat} {v : PySem.Expr} {pos : Pos} {Q : AV → Store → Prop} (h : Ev prog w F σ m v fun ov σ₁ => ov = .ref T ∧ Tbl k σ₁ T E em n ∧ Q (.ref E) σ₁)
    (he : eval (v.Attribute "entries" pos) F.env = (do
          let o ← eval v F.env
          standAt pos.atName
          let r ← holding [o] (getAttr o "entries" true)
          letTemporaryGo v o r
          pure r) := by rfl) : Ev prog w F σ m (.Attribute v "entries" pos) Q := by
  refine ev_attr O (h.mono fun ov σ₁ hh => ?_) he
  obtain ⟨rfl, ⟨⟨Td, pv, h1, h2⟩, _⟩, q⟩ := hh
  exact ⟨T, k.NameTable, Td, _, .ref E, rfl, h1, h2, rfl, rfl, (k.tableS "entries" (by decide)).2, q⟩

/-- the report's method, called in a walk -/
theorem ev_tell (k : Kit K) (O : F.Ok K) (hd : 1 ≤ F.C.d) {R L : Addr} {nm : AV} {rows : List Row} (S : Addr → Prop) {o : PySem.Expr} {apos pos : Pos} {e₁ e₂ e₃ : PySem.Expr} {pl : Sem Bool} {Q : AV → Store → Prop} (hS : S L) (hz : rows.length ≤ small)
    (h : Ev prog w F σ m o fun ov σ₁ => ov = .ref R ∧ Rep k σ₁ R L nm rows ∧ EvL prog w F σ₁ m [e₁, e₂, e₃] fun as σ₂ => ∃ r : Row, as = [.str r.kind, .int r.mark, .str r.detail] ∧ Rep k σ₂ R L nm rows ∧ ∀ σ₃, Stp S σ₂ σ₃ → Rep k σ₃ R L nm (rows ++ [r]) → (∀ a o, a ≠ L → σ₂ a = some o → σ₃ a = some o) → Q .none σ₃)
    (h1 : eval ((o.Attribute "add" apos).Call [e₁, e₂, e₃] [] pos) F.env = (do
          let ov ← eval o F.env
          standAt apos.atName
          let __x ← holding [ov] (getMethod ov "add" pl)
          match __x with
            | (f, first) => callWith pos f first (backTo pos (starEach [e₁, e₂, e₃] F.env)) []) := by rfl)
    (h2 : starEach [e₁, e₂, e₃] F.env = (false, eval e₁ F.env) :: starEach [e₂, e₃] F.env := by rfl) (h3 : ((backTo pos (starEach [e₂, e₃] F.env)).any fun x => x.fst) = false := by rfl) : Ev prog w F σ m ((o.Attribute "add" apos).Call [e₁, e₂, e₃] [] pos) Q := by
  refine ev_methI O (h.mono fun ov σ₁ hh => ?_) h1 h2 h3
  obtain ⟨rfl, ⟨⟨Rd, g1, g2⟩, _⟩, q⟩ := hh
  refine ⟨R, k.Report, Rd, _, k.reportA.f, rfl, g1, g2, rfl, k.reportA.ok, fun ps => (q ps).mono fun as σ₂ hh => ?_⟩
  obtain ⟨r, rfl, rep, q⟩ := hh
  exact (tell k O hd rep hS hz).mono fun v σ₃ ⟨e, s1, s2, s3⟩ => e ▸ q σ₃ s1 s2 s3

noncomputable def LE (L E : Addr) : Addr → Prop := fun a => a = L ∨ a = E
theorem add_name_spec (k : Kit K) (O : F.Ok K) (hd : 2 ≤ F.C.d) {R T L E : Addr} {nm : AV} {rows : List Row} {em : PySem.Str → Option Bool} {n : Nat} {name : PySem.Str} {at_ : Int} (h1 : Rep k σ R L nm rows) (h2 : Tbl k σ T E em n) (hz : rows.length ≤ small) (hn : n ≤ small) :
    CallF prog w F σ m k.add_name.f [.ref R, .ref T, .str name, .str "instance", .int at_, .int (-1)] fun v σ' => Stp (LE L E) σ σ' ∧
      Rep k σ' R L nm (if (em name).isSome then rows ++ [⟨at_, "duplicate", name⟩] else rows) ∧ Tbl k σ' T E (if (em name).isSome then em else emPut em name false) (n + 1) := by
  obtain ⟨xs, hL, hrows⟩ := h1.lst
  obtain ⟨es, hE, hes, hem⟩ := h2.dct
  have hLE : L ≠ E := ne_of' hL hE (by intro h; cases h)
  refine callK k.add_name.fn O (Nat.le_trans (Nat.le_of_ble_eq_true rfl) hd) fun c Oc hc _ => ?_
  refine letQ ?_
  intro Qf
  refine ex_cons (ex_if (ts_cmp (ev_local rfl (ev_entries k Oc (ev_local rfl ⟨rfl, h2, cmp_in_dict hE ⟨fun hin => ?_, fun hin => ?_⟩⟩)))))
  · have hs : (em name).isSome = true := by
      rcases hem name with ⟨a, b⟩ | ⟨v, b, a, e, _⟩
      · rw [a] at hin; cases hin
      · rw [e]; rfl
    refine ex_cons (ex_expr (ev_tell k Oc (dp hc hd (Nat.le_of_ble_eq_true rfl)) (LE L E) (.inl rfl) hz (ev_local rfl ⟨rfl, h1, ?_⟩)))
    walk_at "W"
    refine ⟨⟨at_, "duplicate", name⟩, rfl, h1, fun σ₃ s1 s2 s3 => ex_nil (ex_nil ⟨s1, ?_, ?_⟩)⟩
    · rw [if_pos hs]; exact s2
    · rw [if_pos hs]
      obtain ⟨a, es', b1, b2, b3⟩ := h2.keep s1.leq (by rw [s3 E _ hLE.symm hE, hE])
      exact ⟨a, es', b1, Nat.le_succ_of_le b2, b3⟩
  · have hs : (em name).isSome = false := by
      rcases hem name with ⟨a, b⟩ | ⟨v, b, a, e, _⟩
      · rw [b]; rfl
      · rw [a] at hin; cases hin
    refine ex_cons (ex_assign_sub ?_)
    walk_at "W"
    refine ev_entries k Oc (ev_local rfl ⟨rfl, h2.keep (Stp.new (S := LE L E) (by assumption)).leq (upd_old (ne_of hE (by assumption)) rfl), ev_local rfl ?_⟩)
    refine seti_dict (upd_new (by assumption) hE) (Nat.le_trans hes hn) (ex_nil (ex_nil ?_))
    rename_i a ha
    have hEa : E ≠ a := ne_of hE ha
    have hLa : L ≠ a := ne_of hL ha
    have st : Stp (LE L E) σ (upd (upd σ a (.tup [.str "instance", .int at_, .int (-1)])) E (.dict (put name (.ref a) es))) := (Stp.new ha).trans (Stp.at (.inr rfl) (upd_new ha hE) rfl)
    refine ⟨st, ?_, ?_⟩
    · rw [hs]
      exact h1.keep st.leq (upd_old hLE (upd_old hLa rfl))
    · rw [hs]
      exact h2.put hE st.leq (.inst (upd_old hEa.symm upd_self)) upd_self
theorem ex_assign_tuple {elts : List PySem.Expr} {kk : Nat} {tpos : Pos} {value : PySem.Expr} {pos : Pos} {Q : Fl → Store → Loc → Prop} (h : Ev prog w F σ m value fun v σ₁ => Asg prog w F σ₁ m (.Tuple elts kk tpos) v fun m₁ => Q .next σ₁ m₁)
    (hs : swapsWithSole [.Tuple elts kk tpos] value pos.line F.env = pure false := by rfl) (hw : swappedStores [.Tuple elts kk tpos] value F.env = pure none := by rfl) : Ex1 prog w F σ m (.Assign [.Tuple elts kk tpos] value pos) Q :=
  fun fr s Q' E S k => Assign_Tuple (h fr s _ E S fun u v h' tk σ' r S' q => q u r fr _ _ E S' fun h₂ tk₂ m₂ S₂ q₂ => k _ _ _ _ _ _ .next S₂ q₂) hs hw
theorem EntA.tup {v : AV} {b : Bool} (h : EntA σ v b) : ∃ a what at_ info, v = .ref a ∧ σ a = some (.tup [.str what, .int at_, info]) ∧ ((what = "instance") ∨ (what = "net" ∧ ∃ c d x, info = .ref c ∧ σ c = some (.tup [.str d, .bool true, .bool x]))) := by
  cases h with
  | net h1 h2 => exact ⟨_, _, _, _, rfl, h1, .inr ⟨rfl, _, _, _, rfl, h2⟩⟩
  | inst h1 => exact ⟨_, _, _, _, rfl, h1, .inl rfl⟩

theorem add_port_spec (k : Kit K) (O : F.Ok K) (hd : 2 ≤ F.C.d) {R T L E : Addr} {nm : AV} {rows : List Row} {em : PySem.Str → Option Bool} {n : Nat} {name : PySem.Str} {at_ : Int} (h1 : Rep k σ R L nm rows) (h2 : Tbl k σ T E em n) (hz : rows.length ≤ small) (hn : n ≤ small) :
    CallF prog w F σ m k.add_port.f [.ref R, .ref T, .str name, .int at_, .str "input", .bool false] fun v σ' => Stp (LE L E) σ σ' ∧
      Rep k σ' R L nm (if (em name).isSome then rows ++ [⟨at_, "duplicate", name⟩] else rows) ∧ Tbl k σ' T E (if (em name).isSome then em else emPut em name true) (n + 1) := by
  obtain ⟨xs, hL, hrows⟩ := h1.lst
  obtain ⟨es, hE, hes, hem⟩ := h2.dct
  have hLE : L ≠ E := ne_of' hL hE (by intro h; cases h)
  refine callK k.add_port.fn O (Nat.le_trans (Nat.le_of_ble_eq_true rfl) hd) fun c Oc hc _ => ?_
  refine letQ ?_
  intro Qf
  refine ex_cons (ex_if (ts_cmp (ev_local rfl (ev_entries k Oc (ev_local rfl ⟨rfl, h2, cmp_notin_dict hE ⟨fun hin => ?_, fun hin => ?_⟩⟩)))))
  · have hs : (em name).isSome = false := by
      rcases hem name with ⟨a, b⟩ | ⟨v, b, a, e, _⟩
      · rw [b]; rfl
      · rw [a] at hin; cases hin
    refine ex_cons (ex_assign (ev_str ?_))
    refine ex_cons (ex_if (ts_value (ev_local rfl ⟨false, rfl, ⟨fun h => (nomatch h), fun _ => ex_nil ?_⟩⟩)))
    refine ex_cons (ex_assign_sub ?_)
    walk_at "W"
    refine ev_entries k Oc (ev_local rfl ⟨rfl, h2.keep (σ' := _) ((Stp.new (S := LE L E) (by assumption)).trans (Stp.new (by assumption))).leq (upd_new (by assumption) (upd_new (by assumption) hE) |>.trans hE.symm), ev_local rfl ?_⟩)
    refine seti_dict (upd_new (by assumption) (upd_new (by assumption) hE)) (Nat.le_trans hes hn) (ex_cons (ex_ret0 ?_))
    rename_i a ha b hb
    have hEa : E ≠ a := ne_of hE ha
    have hLa : L ≠ a := ne_of hL ha
    have hEb : E ≠ b := ne_of (upd_new ha hE) hb
    have hLb : L ≠ b := ne_of (upd_new ha hL) hb
    have hab : a ≠ b := ne_of upd_self hb
    have st : Stp (LE L E) σ (upd (upd (upd σ a (.tup [.str "input", .bool true, .bool false])) b (.tup [.str "net", .int at_, .ref a])) E (.dict (put name (.ref b) es))) := ((Stp.new ha).trans (Stp.new hb)).trans (Stp.at (.inr rfl) (upd_new hb (upd_new ha hE)) rfl)
    refine ⟨st, ?_, ?_⟩
    · rw [hs]
      exact h1.keep st.leq (upd_old hLE (upd_old hLb (upd_old hLa rfl)))
    · rw [hs]
      exact h2.put hE st.leq (.net (upd_old hEb.symm upd_self) (upd_old hEa.symm (upd_old hab upd_self))) upd_self
  · obtain ⟨v, b, hv, hsm, ent⟩ : ∃ v b, get name es = some v ∧ em name = some b ∧ EntA σ v b := by
      rcases hem name with ⟨a, b⟩ | h
      · rw [a] at hin; cases hin
      · exact h
    have hs : (em name).isSome = true := by rw [hsm]; rfl
    obtain ⟨a, what, at₀, info, rfl, hta, hcase⟩ := ent.tup
    refine ex_nil (ex_cons (ex_assign_tuple (ev_sub (ev_entries k Oc (ev_local rfl ⟨rfl, h2, ev_local rfl <| subq_dict hE hv ?_⟩)))))
    refine asg_tuple Oc hta (asgl_cons (asg_name (asgl_cons (asg_name (asgl_cons (asg_name (asgl_nil ?_)))))))
    refine ex_cons (ex_if (Tr.mono (Q := fun b σ₁ => b = true ∧ Stp (LE L E) σ σ₁ ∧ σ₁ L = σ L ∧ σ₁ E = σ E) ?_ ?_))
    · refine ts_or (ts_cmp (ev_local rfl (ev_tuple (evl_cons (ev_str (evl_cons (ev_str (evl_nil ⟨Nat.le_of_ble_eq_true rfl, fun t ht => cmp_notin_tup upd_self (by simp [eqA]) ?_⟩))))))))
      have st : Stp (LE L E) σ (upd σ t (.tup [.str "net", .str "var"])) := Stp.new ht
      have eL : upd σ t (.tup [.str "net", .str "var"]) L = σ L := upd_old (ne_of hL ht) rfl
      have eE : upd σ t (.tup [.str "net", .str "var"]) E = σ E := upd_old (ne_of hE ht) rfl
      rcases hcase with rfl | ⟨rfl, cc, dd, xx, rfl, hcc⟩
      · exact ⟨fun _ => ⟨rfl, st, eL, eE⟩, fun h => absurd h (by decide)⟩
      · refine ⟨fun h => absurd h (by decide), fun _ => ?_⟩
        exact ts_value (ev_sub (ev_local rfl (ev_int <| subq_tup (upd_new ht hcc) (by decide) (by decide) (by rfl) ⟨true, rfl, rfl, st, eL, eE⟩)))
    · rintro _ σ₁ ⟨rfl, st, eL, eE⟩
      refine ⟨fun _ => ?_, fun h => nomatch h⟩
      have r1 := h1.keep st.leq eL
      have t1 := h2.keep st.leq eE
      refine ex_cons (ex_expr (ev_tell k Oc (dp hc hd (Nat.le_of_ble_eq_true rfl)) (LE L E) (.inl rfl) hz (ev_local rfl ⟨rfl, r1, evl_cons (ev_str (evl_cons (ev_local rfl (evl_cons (ev_local rfl (evl_nil ?_))))))⟩)))
      refine ⟨⟨at_, "duplicate", name⟩, rfl, r1, fun σ₃ s1 s2 s3 => ex_cons (ex_ret0 ⟨st.trans s1, ?_, ?_⟩)⟩
      · rw [if_pos hs]; exact s2
      · rw [if_pos hs]
        obtain ⟨a, es', b1, b2, b3⟩ := t1.keep s1.leq (by rw [s3 E _ hLE.symm (eE.trans hE), eE, hE])
        exact ⟨a, es', b1, Nat.le_succ_of_le b2, b3⟩
/-- an item of a module: a port declared, an instance made -/
inductive It
  | port (mark : Int) (name : PySem.Str)
  | inst (mark : Int) (unit : PySem.Str) (name : Option PySem.Str) (ends : List (Option PySem.Str))
noncomputable def oS : Option PySem.Str → AV
  | none => .none
  | some x => .str x
inductive IsConns (σ : Store) : List AV → List (Option PySem.Str) → Prop
  | nil : IsConns σ [] []
  | cons {a o : Addr} {e : Option PySem.Str} {mk : Int} {b : Addr} {xs es} : σ a = some (.tup [oS e, .ref o]) → σ o = some (.tup [.str "num", .int mk, .ref b, .bool false, .bool true]) → IsConns σ xs es → IsConns σ (.ref a :: xs) (e :: es)
inductive IsIt (σ : Store) : AV → It → Prop
  | port {a : Addr} {mk : Int} {n : PySem.Str} : σ a = some (.tup [.str "port", .int mk, .str "input", .bool false, .none, .str n]) → IsIt σ (.ref a) (.port mk n)
  | inst {a p q : Addr} {mk : Int} {u : PySem.Str} {n : Option PySem.Str} {xs es} : σ a = some (.tup [.str "inst", .int mk, .str u, .ref p, oS n, .none, .ref q]) → σ p = some (.tup []) → σ q = some (.tup xs) → IsConns σ xs es → IsIt σ (.ref a) (.inst mk u n es)
inductive IsIts (σ : Store) : List AV → List It → Prop
  | nil : IsIts σ [] []
  | cons {x i xs is} : IsIt σ x i → IsIts σ xs is → IsIts σ (x :: xs) (i :: is)
theorem IsConns.leq {σ' : Store} (hs : Leq σ σ') {xs : List AV} {es : List (Option PySem.Str)} (h : IsConns σ xs es) : IsConns σ' xs es := by
  induction h with
  | nil => exact .nil
  | cons h1 h2 _ ih => exact .cons (hs _ _ rfl h1) (hs _ _ rfl h2) ih
theorem IsIt.leq {σ' : Store} (hs : Leq σ σ') {v : AV} {i : It} (h : IsIt σ v i) : IsIt σ' v i := by
  cases h with
  | port h1 => exact .port (hs _ _ rfl h1)
  | inst h1 h2 h3 h4 => exact .inst (hs _ _ rfl h1) (hs _ _ rfl h2) (hs _ _ rfl h3) (h4.leq hs)
theorem IsIts.leq {σ' : Store} (hs : Leq σ σ') {xs : List AV} {is : List It} (h : IsIts σ xs is) : IsIts σ' xs is := by
  induction h with
  | nil => exact .nil
  | cons h1 _ ih => exact .cons (h1.leq hs) ih
theorem IsIts.length {xs : List AV} {is : List It} (h : IsIts σ xs is) : xs.length = is.length := by
  induction h with
  | nil => rfl
  | cons _ _ ih => rw [List.length_cons, List.length_cons, ih]

noncomputable def dRow (em : PySem.Str → Option Bool) : It → List Row
  | .port mk n => if (em n).isSome then [⟨mk, "duplicate", n⟩] else []
  | .inst mk _ (some n) _ => if (em n).isSome then [⟨mk, "duplicate", n⟩] else []
  | .inst _ _ none _ => []
noncomputable def dEm (em : PySem.Str → Option Bool) : It → (PySem.Str → Option Bool)
  | .port _ n => if (em n).isSome then em else emPut em n true
  | .inst _ _ (some n) _ => if (em n).isSome then em else emPut em n false
  | .inst _ _ none _ => em

theorem declare_item_spec (k : Kit K) (O : F.Ok K) (hd : 3 ≤ F.C.d) {R T L E : Addr} {nm : AV} {rows : List Row} {em : PySem.Str → Option Bool} {n : Nat} {v : AV} {i : It} (h1 : Rep k σ R L nm rows) (h2 : Tbl k σ T E em n) (hi : IsIt σ v i) (hz : rows.length ≤ small) (hn : n ≤ small) :
    CallF prog w F σ m k.declare_item.f [.ref R, .ref T, v, .bool false] fun r σ' => Stp (LE L E) σ σ' ∧ Rep k σ' R L nm (rows ++ dRow em i) ∧ Tbl k σ' T E (dEm em i) (n + 1) := by
  refine callK k.declare_item.fn O (Nat.le_trans (Nat.le_of_ble_eq_true rfl) hd) fun c Oc hc _ => ?_
  refine letQ ?_
  intro Qf
  refine ex_cons ?_
  cases hi with
  | @port a mk nn g1 =>
    walk_at "W"
    refine ev_callG k.add_port Oc ?_
    walk_at "W"
    refine (add_port_spec k Oc (dp hc hd (Nat.le_of_ble_eq_true rfl)) h1 h2 hz hn).mono fun v σ' hh => ?_
    obtain ⟨s1, s2, s3⟩ := hh
    repeat refine ex_nil ?_
    refine ⟨s1, ?_, s3⟩
    show Rep k σ' R L nm (rows ++ if (em nn).isSome then [⟨mk, "duplicate", nn⟩] else [])
    by_cases hs : (em nn).isSome = true
    · rw [if_pos hs] at s2 ⊢; exact s2
    · rw [if_neg hs] at s2 ⊢; rw [List.append_nil]; exact s2
  | @inst a p q mk u nn xs es g1 g2 g3 g4 =>
    cases nn with
    | none =>
      walk_at "W"
      refine ⟨Stp.refl _ _, ?_, ?_⟩
      · show Rep k σ R L nm (rows ++ [])
        rw [List.append_nil]; exact h1
      · obtain ⟨a, es', b1, b2, b3⟩ := h2
        exact ⟨a, es', b1, Nat.le_succ_of_le b2, b3⟩
    | some nn =>
      walk_at "W"
      refine ev_callG k.add_name Oc ?_
      walk_at "W"
      refine ev_neg (ev_int ⟨1, rfl, ?_⟩)
      walk_at "W"
      refine (add_name_spec k Oc (dp hc hd (Nat.le_of_ble_eq_true rfl)) h1 h2 hz hn).mono fun v σ' hh => ?_
      obtain ⟨s1, s2, s3⟩ := hh
      repeat refine ex_nil ?_
      refine ⟨s1, ?_, s3⟩
      show Rep k σ' R L nm (rows ++ if (em nn).isSome then [⟨mk, "duplicate", nn⟩] else [])
      by_cases hs : (em nn).isSome = true
      · rw [if_pos hs] at s2 ⊢; exact s2
      · rw [if_neg hs] at s2 ⊢; rw [List.append_nil]; exact s2
theorem for_inv {target : PySem.Expr} {body : List Stmt} {l : Addr} {o₀ : Option AO} {Q : Fl → Store → Loc → Prop} {xs : List AV} (I : Nat → Store → Loc → Prop) (h0 : I 0 σ m) (hk : ∀ i σ m, I i σ m → σ l = o₀)
    (hstep : ∀ i x σ m, xs[i]? = some x → I i σ m → let Q' : Fl → Store → Loc → Prop := (fun fl σ₂ m₂ => match fl with
      | .brk => Q .next σ₂ m₂
      | .ret v => Q (.ret v) σ₂ m₂
      | _ => I (i + 1) σ₂ m₂); Asg prog w F σ m target x fun m₁ => Ex prog w F σ m₁ body Q') (hend : ∀ σ m, I xs.length σ m → Q .next σ m) : ForP prog w F target body l o₀ Q xs σ m := by
  have key : ∀ (n i : Nat) (σ : Store) (m : Loc), xs.length - i = n → i ≤ xs.length → I i σ m → ForP prog w F target body l o₀ Q (xs.drop i) σ m := by
    intro n
    induction n with
    | zero =>
      intro i σ m hn hi h
      have : i = xs.length := by (first | lia | omega)
      subst this
      rw [List.drop_length]
      exact ⟨hk _ _ _ h, hend _ _ h⟩
    | succ n ih =>
      intro i σ m hn hi h
      have hlt : i < xs.length := by (first | lia | omega)
      rw [List.drop_eq_getElem_cons hlt]
      refine ⟨hk _ _ _ h, ?_⟩
      have st := hstep i xs[i] σ m (List.getElem?_eq_getElem hlt) h
      intro u r fr s Q' E S kk
      refine st u r fr s Q' E S fun h' tk m' S' q => kk h' tk m' S' (q.mono fun fl σ₂ m₂ hh => ?_)
      cases fl with
      | next => exact ih (i + 1) σ₂ m₂ (by (first | lia | omega)) hlt hh
      | cont => exact ih (i + 1) σ₂ m₂ (by (first | lia | omega)) hlt hh
      | brk => exact hh
      | ret v => exact hh
  have := key (xs.length - 0) 0 σ m rfl (Nat.zero_le _) h0
  rw [List.drop_zero] at this
  exact this
theorem IsIts.get {xs : List AV} {is : List It} (h : IsIts σ xs is) : ∀ {i x}, xs[i]? = some x → ∃ it, is.drop i = it :: is.drop (i + 1) ∧ IsIt σ x it := by
  induction h with
  | nil => intro i x e; simp at e
  | cons h1 _ ih =>
    intro i x e
    cases i with
    | zero => simp at e; subst e; exact ⟨_, rfl, h1⟩
    | succ i =>
      obtain ⟨it, a, b⟩ := ih (by simpa using e)
      exact ⟨it, by simpa using a, b⟩
theorem IsConns.get {xs : List AV} {es : List (Option PySem.Str)} (h : IsConns σ xs es) : ∀ {i x}, xs[i]? = some x → ∃ e a o mk b, es.drop i = e :: es.drop (i + 1) ∧ x = .ref a ∧ σ a = some (.tup [oS e, .ref o]) ∧ σ o = some (.tup [.str "num", .int mk, .ref b, .bool false, .bool true]) := by
  induction h with
  | nil => intro i x e; simp at e
  | cons h1 h2 _ ih =>
    intro i x e
    cases i with
    | zero => simp at e; subst e; exact ⟨_, _, _, _, _, rfl, rfl, h1, h2⟩
    | succ i =>
      obtain ⟨it, a, o, mk, b, g1, g2, g3, g4⟩ := ih (by simpa using e)
      exact ⟨it, a, o, mk, b, by simpa using g1, g2, g3, g4⟩

theorem add_implicit_spec (k : Kit K) (O : F.Ok K) (hd : 1 ≤ F.C.d) {tv : AV} {o b : Addr} {mk : Int} (h : σ o = some (.tup [.str "num", .int mk, .ref b, .bool false, .bool true])) :
    CallF prog w F σ m k.add_implicit.f [tv, .ref o] fun r σ' => σ' = σ := by
  refine callK k.add_implicit.fn O hd fun c Oc hc _ => ?_
  refine letQ ?_
  intro Qf
  refine ex_cons ?_
  walk_at "W"
  rfl
theorem declare_implicit_spec (k : Kit K) (O : F.Ok K) (hd : 2 ≤ F.C.d) {tv v : AV} {i : It} (h : IsIt σ v i) : CallF prog w F σ m k.declare_implicit.f [tv, v] fun r σ' => σ' = σ := by
  refine callK k.declare_implicit.fn O (Nat.le_trans (Nat.le_of_ble_eq_true rfl) hd) fun c Oc hc _ => ?_
  refine letQ ?_
  intro Qf
  refine ex_cons ?_
  cases h with
  | port g1 => walk_at "W"; rfl
  | @inst a p q mk u nn xs es g1 g2 g3 g4 =>
    walk_at "W"
    refine ex_for Oc ?_
    walk_at "W"
    refine ⟨q, xs, rfl, .tup g3, for_inv (fun i σ' m' => σ' = σ ∧ get "table" m' = some tv) ⟨rfl, rfl⟩ (fun i σ' m' hI => by rw [hI.1]) (fun i x σ' m' hx hI => ?_) (fun σ' m' hI => ?_)⟩
    · intro Qs
      obtain ⟨rfl, hm⟩ := hI
      obtain ⟨e, a, o, mk, b, _, rfl, ga, go⟩ := g4.get hx
      refine asg_tuple Oc ga (asgl_cons (asg_name (asgl_cons (asg_name (asgl_nil ?_)))))
      walk_at "W"
      refine ev_callG k.add_implicit Oc ?_
      walk_at "W"
      refine (add_implicit_spec k Oc (dp hc hd (Nat.le_of_ble_eq_true rfl)) go).mono fun r σ₂ e => ?_
      subst e
      walk_at "W"
      exact ⟨rfl, by walk_at "G"⟩
    · obtain ⟨rfl, hm⟩ := hI
      walk_at "W"
      rfl

noncomputable def dRows (em : PySem.Str → Option Bool) : List It → List Row
  | [] => []
  | i :: is => dRow em i ++ dRows (dEm em i) is
noncomputable def dEms (em : PySem.Str → Option Bool) : List It → (PySem.Str → Option Bool)
  | [] => em
  | i :: is => dEms (dEm em i) is
theorem dRow_le (em : PySem.Str → Option Bool) (i : It) : (dRow em i).length ≤ 1 := by
  have key : ∀ (b : Bool) (r : Row), (if b = true then [r] else []).length ≤ 1 := by intro b r; cases b <;> simp
  cases i with
  | port mk n => exact key _ _
  | inst mk u n es =>
    cases n with
    | none => exact Nat.zero_le _
    | some x => exact key _ _

theorem declare_items_spec (k : Kit K) (O : F.Ok K) (hd : 4 ≤ F.C.d) {R T L E I : Addr} {nm : AV} {rows : List Row} {em : PySem.Str → Option Bool} {n : Nat} {xs : List AV} {is : List It} (h1 : Rep k σ R L nm rows) (h2 : Tbl k σ T E em n) (hI : σ I = some (.tup xs)) (hi : IsIts σ xs is) (hz : rows.length + is.length ≤ small) (hn : n + is.length ≤ small) :
    CallF prog w F σ m k.declare_items.f [.ref R, .ref T, .ref I] fun r σ' => Stp (LE L E) σ σ' ∧ Rep k σ' R L nm (rows ++ dRows em is) ∧ Tbl k σ' T E (dEms em is) (n + is.length) := by
  refine callK k.declare_items.fn O (Nat.le_trans (Nat.le_of_ble_eq_true rfl) hd) fun c Oc hc _ => ?_
  refine letQ ?_
  intro Qf
  have hlen := hi.length
  refine ex_cons (ex_for Oc ?_)
  walk_at "W"
  refine ⟨I, xs, rfl, .tup hI, for_inv (fun i σ' m' => Stp (LE L E) σ σ' ∧ (∃ rows' em', Rep k σ' R L nm rows' ∧ Tbl k σ' T E em' (n + i) ∧ rows' ++ dRows em' (is.drop i) = rows ++ dRows em is ∧ dEms em' (is.drop i) = dEms em is ∧ rows'.length ≤ rows.length + i) ∧ get "report" m' = some (.ref R) ∧ get "table" m' = some (.ref T) ∧ get "items" m' = some (.ref I))
    ⟨Stp.refl _ _, ⟨rows, em, h1, h2, rfl, rfl, Nat.le_refl _⟩, rfl, rfl, rfl⟩ (fun i σ' m' hh => by rw [hh.1.leq _ _ rfl hI, hI]) (fun i x σ' m' hx hh => ?_) (fun σ' m' hh => ?_)⟩
  · intro Qs
    obtain ⟨st, ⟨rows', em', r1, t1, e1, e2, e3⟩, m1, m2, m3⟩ := hh
    obtain ⟨it, hdrop, hit⟩ := hi.get hx
    have hlt : i < is.length := by
      have := (List.getElem?_eq_some_iff.mp hx).1
      (first | lia | omega)
    have hit' := hit.leq st.leq
    have call : ∀ m₂, get "report" m₂ = some (.ref R) → get "table" m₂ = some (.ref T) → get "items" m₂ = some (.ref I) → get "item" m₂ = some x → CallF prog w (c.fm (scOf (nth 42)) none) σ' m₂ k.declare_item.f [.ref R, .ref T, x, .bool false] fun r σ'' => Stp (LE L E) σ σ'' ∧ ∃ rows' em', Rep k σ'' R L nm rows' ∧ Tbl k σ'' T E em' (n + (i + 1)) ∧ rows' ++ dRows em' (is.drop (i + 1)) = rows ++ dRows em is ∧ dEms em' (is.drop (i + 1)) = dEms em is ∧ rows'.length ≤ rows.length + (i + 1) := by
      intro m₂ _ _ _ _
      refine (declare_item_spec k Oc (dp hc hd (Nat.le_of_ble_eq_true rfl)) r1 t1 hit' (by (first | lia | omega)) (by (first | lia | omega))).mono fun r σ'' hh => ?_
      obtain ⟨s1, s2, s3⟩ := hh
      refine ⟨st.trans s1, _, _, s2, s3, ?_, ?_, ?_⟩
      · rw [hdrop] at e1
        rw [← e1, List.append_assoc]; rfl
      · rw [hdrop] at e2
        rw [← e2]; rfl
      · have := dRow_le em' it
        rw [List.length_append]; (first | lia | omega)
    refine asg_name ?_
    cases hit' with
    | port g1 =>
      walk_at "W"
      refine ev_callG k.declare_item Oc ?_
      walk_at "W"
      refine (call _ (by walk_at "G") (by walk_at "G") (by walk_at "G") (by walk_at "G")).mono fun r σ'' hh => ?_
      walk_at "W"
      exact ⟨hh.1, hh.2, by walk_at "G", by walk_at "G", by walk_at "G"⟩
    | inst g1 g2 g3 g4 =>
      walk_at "W"
      refine ev_callG k.declare_item Oc ?_
      walk_at "W"
      refine (call _ (by walk_at "G") (by walk_at "G") (by walk_at "G") (by walk_at "G")).mono fun r σ'' hh => ?_
      walk_at "W"
      exact ⟨hh.1, hh.2, by walk_at "G", by walk_at "G", by walk_at "G"⟩
  · obtain ⟨st, ⟨rows', em', r1, t1, e1, e2, e3⟩, m1, m2, m3⟩ := hh
    rw [hlen, List.drop_length] at e1 e2
    have e1 : rows' = rows ++ dRows em is := by simpa [dRows] using e1
    have e2 : em' = dEms em is := e2
    subst e1; subst e2
    have t1 : Tbl k σ' T E (dEms em is) (n + is.length) := by rw [hlen] at t1; exact t1
    refine ex_cons (ex_if (ts_cmp (ev_attr Oc (ev_local (by walk_at "G") ?_))))
    obtain ⟨⟨Rd, g1, g2⟩, _⟩ := id r1
    refine ⟨R, k.Report, Rd, _, .str "wire", rfl, g1, g2, rfl, rfl, (k.reportS "nettype" (by decide)).2, ?_⟩
    walk_at "W"
    refine ex_for Oc ?_
    walk_at "W"
    have hI' := st.leq _ _ rfl hI
    refine ⟨I, xs, rfl, .tup hI', for_inv (fun i σ'' m'' => σ'' = σ' ∧ get "table" m'' = some (.ref T)) ⟨rfl, m2⟩ (fun i σ'' m'' hh => by rw [hh.1]) (fun i x σ'' m'' hx hh => ?_) (fun σ'' m'' hh => ?_)⟩
    · intro Qs
      obtain ⟨rfl, hm⟩ := hh
      obtain ⟨it, hdrop, hit⟩ := (hi.leq st.leq).get hx
      refine asg_name ?_
      walk_at "W"
      refine ev_callG k.declare_implicit Oc ?_
      walk_at "W"
      refine (declare_implicit_spec k Oc (dp hc hd (Nat.le_of_ble_eq_true rfl)) hit).mono fun r σ₂ e => ?_
      subst e
      walk_at "W"
      exact ⟨rfl, by walk_at "G"⟩
    · obtain ⟨rfl, hm⟩ := hh
      walk_at "W"
      exact ⟨st, r1, t1⟩
noncomputable def One (L : Addr) : Addr → Prop := fun a => a = L
theorem Stp.atNew {S : Addr → Prop} {σ σ' : Store} {c : Addr} {o : AO} (h : Stp S σ σ') (hc : σ c = none) : Stp S σ (upd σ' c o) :=
  ⟨fun a o' i e => upd_old (ne_of e hc) (h.leq a o' i e), fun a o' n e => upd_old (ne_of e hc) (h.chg a o' n e)⟩
theorem Stp.fresh {S : Addr → Prop} {σ σ' : Store} {c : Addr} (h : Stp S σ σ') (hc : σ' c = none) (hS : ∀ a, S a → ∃ o, σ' a = some o) : σ c = none := by
  cases e : σ c with
  | none => rfl
  | some o =>
    by_cases z : S c
    · obtain ⟨o', h'⟩ := hS c z
      rw [hc] at h'; cases h'
    · have := h.chg c o z e
      rw [hc] at this; cases this

theorem check_range_spec (k : Kit K) (O : F.Ok K) (hd : 1 ≤ F.C.d) {rv tv : AV} : CallF prog w F σ m k.check_range.f [rv, tv, .none] fun r σ' => σ' = σ := by
  refine callK k.check_range.fn O hd fun c Oc hc _ => ?_
  refine letQ ?_
  intro Qf
  refine ex_cons ?_
  walk_at "W"
  rfl
theorem check_expr_spec (k : Kit K) (O : F.Ok K) (hd : 1 ≤ F.C.d) {rv tv : AV} {o b : Addr} {mk : Int} (h : σ o = some (.tup [.str "num", .int mk, .ref b, .bool false, .bool true])) : CallF prog w F σ m k.check_expr.f [rv, tv, .ref o] fun r σ' => σ' = σ := by
  refine callK k.check_expr.fn O hd fun c Oc hc _ => ?_
  refine letQ ?_
  intro Qf
  refine ex_cons ?_
  walk_at "W"
  rfl
theorem check_optional_spec (k : Kit K) (O : F.Ok K) (hd : 2 ≤ F.C.d) {rv tv : AV} {o b : Addr} {mk : Int} (h : σ o = some (.tup [.str "num", .int mk, .ref b, .bool false, .bool true])) : CallF prog w F σ m k.check_optional.f [rv, tv, .ref o] fun r σ' => σ' = σ := by
  refine callK k.check_optional.fn O (Nat.le_trans (Nat.le_of_ble_eq_true rfl) hd) fun c Oc hc _ => ?_
  refine letQ ?_
  intro Qf
  refine ex_cons ?_
  walk_at "W"
  refine ev_callG k.check_expr Oc ?_
  walk_at "W"
  refine (check_expr_spec k Oc (dp hc hd (Nat.le_of_ble_eq_true rfl)) h).mono fun r σ' e => ?_
  walk_at "W"
  exact e
theorem check_declaration_spec (k : Kit K) (O : F.Ok K) (hd : 2 ≤ F.C.d) {rv tv : AV} {a : Addr} {mk : Int} {n : PySem.Str} (h : σ a = some (.tup [.str "port", .int mk, .str "input", .bool false, .none, .str n])) : CallF prog w F σ m k.check_declaration.f [rv, tv, .ref a] fun r σ' => σ' = σ := by
  refine callK k.check_declaration.fn O (Nat.le_trans (Nat.le_of_ble_eq_true rfl) hd) fun c Oc hc _ => ?_
  refine letQ ?_
  intro Qf
  refine ex_cons ?_
  walk_at "W"
  refine ev_callG k.check_range Oc ?_
  walk_at "W"
  refine (check_range_spec k Oc (dp hc hd (Nat.le_of_ble_eq_true rfl))).mono fun r σ' e => ?_
  walk_at "W"
  exact e

/-- the modules' names, with their ports -/
structure Nms (σ : Store) (N : Addr) (pm : PySem.Str → Option (List PySem.Str)) : Prop where
  dct : ∃ nds, σ N = some (.dict nds) ∧ nds.length ≤ small ∧ ∀ x, (get x nds = none ∧ pm x = none) ∨ ∃ pa ps, get x nds = some (.ref pa) ∧ pm x = some ps ∧ ps.length ≤ small ∧ σ pa = some (.tup (ps.map .str))
theorem Nms.keep {σ' : Store} {N : Addr} {pm : PySem.Str → Option (List PySem.Str)} (h : Nms σ N pm) (hs : Leq σ σ') (hn : σ' N = σ N) : Nms σ' N pm := by
  obtain ⟨nds, h1, h2, h3⟩ := h
  refine ⟨nds, hn.trans h1, h2, fun x => ?_⟩
  rcases h3 x with h | ⟨pa, ps, e1, e2, e3, e4⟩
  · exact .inl h
  · exact .inr ⟨pa, ps, e1, e2, e3, hs _ _ rfl e4⟩

theorem anyEq_str (x : PySem.Str) : ∀ l : List PySem.Str, anyEq (l.map .str) (.str x) = decide (x ∈ l)
  | [] => rfl
  | y :: l => by
    have ih := anyEq_str x l
    unfold anyEq at ih ⊢
    rw [List.map_cons, List.any_cons, ih]
    by_cases h : y = x
    · subst h; simp [eqA]
    · simp [eqA, h, Ne.symm h]
theorem eqA_strs (x : AV) (hx : (∃ s, x = .str s) ∨ x = .none) (l : List PySem.Str) : ∀ y ∈ l.map AV.str, (eqA y x).isSome = true := by
  intro y hy
  obtain ⟨s, _, rfl⟩ := List.mem_map.mp hy
  rcases hx with ⟨s, rfl⟩ | rfl <;> rfl

noncomputable def somes (es : List (Option PySem.Str)) : List PySem.Str := es.filterMap id
noncomputable def cRow (mark : Int) (ports seen : List PySem.Str) (x : PySem.Str) : List Row := if x ∈ ports then (if x ∈ seen then [⟨mark, "duplicate", x⟩] else []) else [⟨mark, "unknown_port", x⟩]
noncomputable def cRows (mark : Int) (ports : List PySem.Str) : List PySem.Str → List (Option PySem.Str) → List Row
  | _, [] => []
  | seen, none :: es => cRows mark ports seen es
  | seen, some x :: es => cRow mark ports seen x ++ cRows mark ports (seen ++ [x]) es
noncomputable def iRows (pm : PySem.Str → Option (List PySem.Str)) (mark : Int) (unit : PySem.Str) (ends : List (Option PySem.Str)) : List Row :=
  match pm unit with
  | none => [⟨mark, "unknown_module", unit⟩]
  | some ps => cRows mark ps [] ends ++ (if (somes ends).length = 0 ∧ ps.length < ends.length then [⟨mark, "too_many_ports", unit⟩] else [])
theorem cRow_le (mark : Int) (ports seen : List PySem.Str) (x : PySem.Str) : (cRow mark ports seen x).length ≤ 1 := by
  unfold cRow; split
  · split <;> simp
  · simp
theorem cRows_le (mark : Int) (ports : List PySem.Str) : ∀ (es : List (Option PySem.Str)) (seen : List PySem.Str), (cRows mark ports seen es).length ≤ es.length
  | [], _ => Nat.zero_le _
  | none :: es, seen => Nat.le_trans (cRows_le mark ports es seen) (Nat.le_succ _)
  | some x :: es, seen => by
    have h1 := cRow_le mark ports seen x
    have h2 := cRows_le mark ports es (seen ++ [x])
    show (cRow mark ports seen x ++ cRows mark ports (seen ++ [x]) es).length ≤ es.length + 1
    rw [List.length_append]; (first | lia | omega)

theorem ev_names (k : Kit K) (O : F.Ok K) {R L : Addr} {nm : AV} {rows : List Row} {v : PySem.Expr} {pos : Pos} {Q : AV → Store → Prop} (hb : notBlt nm = true) (h : Ev prog w F σ m v fun ov σ₁ => ov = .ref R ∧ Rep k σ₁ R L nm rows ∧ Q nm σ₁)
    (he : eval (v.Attribute "names" pos) F.env = (do
          let o ← eval v F.env
          standAt pos.atName
          let r ← holding [o] (getAttr o "names" true)
          letTemporaryGo v o r
          pure r) := by rfl) : Ev prog w F σ m (.Attribute v "names" pos) Q := by
  refine ev_attr O (h.mono fun ov σ₁ hh => ?_) he
  obtain ⟨rfl, ⟨⟨Rd, h1, h2⟩, _⟩, q⟩ := hh
  exact ⟨R, k.Report, Rd, _, nm, rfl, h1, h2, rfl, hb, (k.reportS "names" (by decide)).2, q⟩
theorem somes_take (es : List (Option PySem.Str)) (i : Nat) (e : Option PySem.Str) (h : es.drop i = e :: es.drop (i + 1)) : es.take (i + 1) = es.take i ++ [e] := by
  have hl : i < es.length := by
    have := congrArg List.length h
    simp only [List.length_drop, List.length_cons] at this
    (first | lia | omega)
  have h2 := List.drop_eq_getElem_cons hl
  rw [h] at h2
  rw [List.take_succ_eq_append_getElem hl]
  injection h2 with a _
  rw [a]
theorem boot_len : bootBuiltins (PySem.Str.ofString "len") = some (.builtin "len") := by decide +kernel
theorem boot_sorted : bootBuiltins (PySem.Str.ofString "sorted") = some (.builtin "sorted") := by decide +kernel
theorem boot_isinstance : bootBuiltins (PySem.Str.ofString "isinstance") = some (.builtin "isinstance") := by decide +kernel
theorem boot_abs : bootBuiltins (PySem.Str.ofString "abs") = some (.builtin "abs") := by decide +kernel
theorem boot_sum : bootBuiltins (PySem.Str.ofString "sum") = some (.builtin "sum") := by decide +kernel
theorem boot_range : bootBuiltins (PySem.Str.ofString "range") = some (.type "range") := by decide +kernel
theorem boot_tuple : bootBuiltins (PySem.Str.ofString "tuple") = some (.type "tuple") := by decide +kernel
theorem boot_list : bootBuiltins (PySem.Str.ofString "list") = some (.type "list") := by decide +kernel
theorem boot_int : bootBuiltins (PySem.Str.ofString "int") = some (.type "int") := by decide +kernel
theorem strs_snoc (l : List PySem.Str) (x : PySem.Str) : l.map AV.str ++ [.str x] = (l ++ [x]).map AV.str := by simp
theorem IsConns.length {xs : List AV} {es : List (Option PySem.Str)} (h : IsConns σ xs es) : xs.length = es.length := by
  induction h with
  | nil => rfl
  | cons _ _ _ ih => rw [List.length_cons, List.length_cons, ih]

theorem check_instance_spec (k : Kit K) (O : F.Ok K) (hd : 4 ≤ F.C.d) {R T L a p q N : Addr} {rows : List Row} {pm : PySem.Str → Option (List PySem.Str)} {mk : Int} {u : PySem.Str} {nn : Option PySem.Str} {xs : List AV} {es : List (Option PySem.Str)}
    (h1 : Rep k σ R L (.ref N) rows) (hN : Nms σ N pm) (g1 : σ a = some (.tup [.str "inst", .int mk, .str u, .ref p, oS nn, .none, .ref q])) (g2 : σ p = some (.tup [])) (g3 : σ q = some (.tup xs)) (g4 : IsConns σ xs es) (hz : rows.length + es.length + 2 ≤ small) :
    CallF prog w F σ m k.check_instance.f [.ref R, .ref T, .ref a] fun r σ' => Stp (One L) σ σ' ∧ Rep k σ' R L (.ref N) (rows ++ iRows pm mk u es) := by
  have hxl := g4.length
  obtain ⟨lx, hL, _⟩ := id h1.lst
  obtain ⟨nds, hNd, hnz, hnm⟩ := id hN.dct
  have hLN : L ≠ N := ne_of' hL hNd (by intro h; cases h)
  refine callK k.check_instance.fn O (Nat.le_trans (Nat.le_of_ble_eq_true rfl) hd) fun c Oc hc _ => ?_
  refine letQ ?_
  intro Qf
  have tailOk : ∀ (σ₁ : Store) (m₁ : Loc) (rows₁ : List Row), Stp (One L) σ σ₁ → Rep k σ₁ R L (.ref N) rows₁ → get "report" m₁ = some (.ref R) → get "table" m₁ = some (.ref T) → get "conns" m₁ = some (.ref q) → rows₁ = rows ++ iRows pm mk u es →
      Ex prog w (c.fm (scOf (nth 51)) none) σ₁ m₁ ((bodyOf (nth 51)).drop 5) fun fl σ' _ => Stp (One L) σ σ' ∧ Rep k σ' R L (.ref N) (rows ++ iRows pm mk u es) := by
    intro σ₁ m₁ rows₁ st r m1 m2 m3 e
    subst e
    refine ex_cons (ex_for Oc (ev_local m3 ⟨q, xs, rfl, .tup (st.leq _ _ rfl g3), for_inv (fun i σ' m' => σ' = σ₁ ∧ get "report" m' = some (.ref R) ∧ get "table" m' = some (.ref T)) ⟨rfl, m1, m2⟩ (fun i σ' m' hI => by rw [hI.1]) (fun i x σ' m' hx hI => ?_) (fun σ' m' hI => ?_)⟩))
    · intro Qs
      obtain ⟨rfl, n1, n2⟩ := hI
      obtain ⟨e, t, o, mk', b, _, rfl, ga, go⟩ := (g4.leq st.leq).get hx
      refine asg_tuple Oc ga (asgl_cons (asg_name (asgl_cons (asg_name (asgl_nil ?_)))))
      walk_at "W"
      refine ev_callG k.check_optional Oc ?_
      walk_at "W"
      refine (check_optional_spec k Oc (dp hc hd (Nat.le_of_ble_eq_true rfl)) go).mono fun r σ₂ e => ?_
      subst e
      walk_at "W"
      exact ⟨rfl, by walk_at "G", by walk_at "G"⟩
    · obtain ⟨rfl, n1, n2⟩ := hI
      refine ex_nil ⟨st, r⟩
  refine ex_cons ?_
  walk_at "W"
  refine ex_for Oc ?_
  walk_at "W"
  refine ⟨p, [], rfl, .tup g2, rfl, ?_⟩
  walk_at "W"
  refine ev_callG k.check_range Oc ?_
  walk_at "W"
  refine (check_range_spec k Oc (dp hc hd (Nat.le_of_ble_eq_true rfl))).mono fun r σ₂ e => ?_
  subst e
  walk_at "W"
  refine ev_names k Oc rfl (ev_local (by walk_at "G") ⟨rfl, h1, cmp_notin_dict hNd ⟨fun hin => ?_, fun hin => ?_⟩⟩)
  · -- unknown module
    have hs : pm u = none := by
      rcases hnm u with ⟨_, b⟩ | ⟨pa, ps, e1, _⟩
      · exact b
      · rw [e1] at hin; cases hin
    refine ex_cons (ex_expr (ev_tell k Oc (dp hc hd (Nat.le_of_ble_eq_true rfl)) (One L) rfl (by (first | lia | omega)) (ev_local (by walk_at "G") ⟨rfl, h1, ?_⟩)))
    walk_at "W"
    refine ⟨⟨mk, "unknown_module", u⟩, rfl, h1, fun σ₃ s1 s2 s3 => ex_nil (tailOk _ _ _ s1 s2 (by walk_at "G") (by walk_at "G") (by walk_at "G") ?_)⟩
    unfold iRows; rw [hs]
  · obtain ⟨pa, ps, e1, e2, hpz, hpa⟩ : ∃ pa ps, get u nds = some (.ref pa) ∧ pm u = some ps ∧ ps.length ≤ small ∧ σ₂ pa = some (.tup (ps.map .str)) := by
      rcases hnm u with ⟨a, _⟩ | h
      · rw [a] at hin; cases hin
      · exact h
    walk_at "W"
    refine ev_names k Oc rfl (ev_local (by walk_at "G") ⟨rfl, h1, ?_⟩)
    walk_at "W"
    refine subq_dict hNd e1 ?_
    walk_at "W"
    refine ev_names k Oc rfl (ev_local (by walk_at "G") ⟨rfl, h1, ?_⟩)
    walk_at "W"
    refine subq_dict hNd e1 ?_
    walk_at "W"
    refine ex_for Oc ?_
    walk_at "W"
    rename_i cn hcn
    have hqc : q ≠ cn := ne_of g3 hcn
    have hLc : L ≠ cn := ne_of hL hcn
    have st0 : Stp (One L) σ₂ (upd σ₂ cn (.list [])) := Stp.new hcn
    refine ⟨q, xs, rfl, .tup (upd_old hqc g3), for_inv (fun i σ' m' => Stp (One L) σ₂ σ' ∧ σ' cn = some (.list ((somes (es.take i)).map .str)) ∧ (∃ rows', Rep k σ' R L (.ref N) rows' ∧ rows' ++ cRows mk ps (somes (es.take i)) (es.drop i) = rows ++ cRows mk ps [] es ∧ rows'.length ≤ rows.length + i) ∧ get "report" m' = some (.ref R) ∧ get "table" m' = some (.ref T) ∧ get "conns" m' = some (.ref q) ∧ get "ports" m' = some (.ref pa) ∧ get "connected" m' = some (.ref cn) ∧ get "at" m' = some (.int mk) ∧ get "item" m' = some (.ref a))
      ⟨st0, upd_self, ⟨rows, h1.keep st0.leq (upd_old hLc rfl), by simp [somes], Nat.le_refl _⟩, by walk_at "G", by walk_at "G", by walk_at "G", by walk_at "G", by walk_at "G", by walk_at "G", by walk_at "G"⟩
      (fun i σ' m' hh => by rw [hh.1.leq _ _ rfl g3, upd_old hqc g3]) (fun i x σ' m' hx hh => ?_) (fun σ' m' hh => ?_)⟩
    · intro Qs
      obtain ⟨st, hcl, ⟨rows', r1, ee, el⟩, m1, m2, m3, m4, m5, m6, m7⟩ := hh
      obtain ⟨e, t, o, mk', b, hdrop, rfl, ga, go⟩ := (g4.leq st.leq).get hx
      have hlt : i < es.length := by
        have := (List.getElem?_eq_some_iff.mp hx).1
        (first | lia | omega)
      have htk := somes_take es i e hdrop
      cases e with
      | none =>
        refine asg_tuple Oc ga (asgl_cons (asg_name (asgl_cons (asg_name (asgl_nil ?_)))))
        walk_at "W"
        refine ⟨st, ?_, ⟨rows', r1, ?_, by (first | lia | omega)⟩, by walk_at "G", by walk_at "G", by walk_at "G", by walk_at "G", by walk_at "G", by walk_at "G", by walk_at "G"⟩
        · rw [htk, hcl]; simp [somes]
        · rw [← ee, hdrop, htk]; simp [somes, cRows]
      | some xn =>
        have hsm : somes (es.take (i + 1)) = somes (es.take i) ++ [xn] := by rw [htk]; simp [somes]
        have hpa' := st.leq _ _ rfl hpa
        have hcr : cRows mk ps (somes (es.take i)) (es.drop i) = cRow mk ps (somes (es.take i)) xn ++ cRows mk ps (somes (es.take (i + 1))) (es.drop (i + 1)) := by rw [hdrop, hsm]; rfl
        have hsz : ((somes (es.take i)).map AV.str).length ≤ small := by
          have : (somes (es.take i)).length ≤ i := by
            unfold somes
            exact Nat.le_trans (List.length_filterMap_le _ _) (by simp; (first | lia | omega))
          rw [List.length_map]; (first | lia | omega)
        -- the end of a turn
        have fin : ∀ (σ₃ : Store) (m₃ : Loc) (rows₃ : List Row), Stp (One L) σ₂ σ₃ → σ₃ cn = some (.list ((somes (es.take i)).map .str)) → Rep k σ₃ R L (.ref N) rows₃ → rows₃ = rows' ++ cRow mk ps (somes (es.take i)) xn →
            Stp (One L) σ₂ (upd σ₃ cn (.list ((somes (es.take i)).map .str ++ [.str xn]))) ∧ upd σ₃ cn (.list ((somes (es.take i)).map .str ++ [.str xn])) cn = some (.list ((somes (es.take (i + 1))).map .str)) ∧
            ∃ rows', Rep k (upd σ₃ cn (.list ((somes (es.take i)).map .str ++ [.str xn]))) R L (.ref N) rows' ∧ rows' ++ cRows mk ps (somes (es.take (i + 1))) (es.drop (i + 1)) = rows ++ cRows mk ps [] es ∧ rows'.length ≤ rows.length + (i + 1) := by
          intro σ₃ m₃ rows₃ s3 c3 r3 e3
          refine ⟨s3.atNew hcn, ?_, rows₃, r3.keep (Stp.at (S := fun _ => True) trivial c3 rfl).leq (upd_old hLc rfl), ?_, ?_⟩
          · rw [upd_self, strs_snoc, hsm]
          · rw [e3, List.append_assoc, ← hcr, ee]
          · have := cRow_le mk ps (somes (es.take i)) xn
            rw [e3, List.length_append]; (first | lia | omega)
        have ga' : σ' t = some (.tup [.str xn, .ref o]) := ga
        refine asg_tuple Oc ga' (asgl_cons (asg_name (asgl_cons (asg_name (asgl_nil ?_)))))
        walk_at "W"
        rw [anyEq_str]
        refine ⟨fun hin => ?_, fun hin => ?_⟩
        · have hnp : xn ∉ ps := by simpa using hin
          refine ex_cons (ex_expr (ev_tell k Oc (dp hc hd (Nat.le_of_ble_eq_true rfl)) (One L) rfl (by (first | lia | omega)) (ev_local (by walk_at "G") ⟨rfl, r1, ?_⟩)))
          walk_at "W"
          refine ⟨⟨mk, "unknown_port", xn⟩, rfl, r1, fun σ₃ s1 s2 s3 => ?_⟩
          have hc3 := s3 _ _ hLc.symm hcl
          walk_at "W"
          refine ev_meth1 (ev_local (by walk_at "G") ⟨"list.append", m_append hc3, ?_⟩)
          walk_at "W"
          refine b_append hc3 hsz ?_
          walk_at "W"
          obtain ⟨f1, f2, f3⟩ := fin σ₃ m' _ (st.trans s1) hc3 s2 (by unfold cRow; rw [if_neg hnp])
          exact ⟨f1, f2, f3, by walk_at "G", by walk_at "G", by walk_at "G", by walk_at "G", by walk_at "G", by walk_at "G", by walk_at "G"⟩
        · have hnp : xn ∈ ps := by simpa using hin
          walk_at "W"
          refine cmp_in_list hcl (eqA_strs _ (.inl ⟨_, rfl⟩) _) ?_
          rw [anyEq_str]
          refine ⟨fun hin2 => ?_, fun hin2 => ?_⟩
          · have hse : xn ∈ somes (es.take i) := by simpa using hin2
            refine ex_cons (ex_expr (ev_tell k Oc (dp hc hd (Nat.le_of_ble_eq_true rfl)) (One L) rfl (by (first | lia | omega)) (ev_local (by walk_at "G") ⟨rfl, r1, ?_⟩)))
            walk_at "W"
            refine ⟨⟨mk, "duplicate", xn⟩, rfl, r1, fun σ₃ s1 s2 s3 => ?_⟩
            have hc3 := s3 _ _ hLc.symm hcl
            walk_at "W"
            refine ev_meth1 (ev_local (by walk_at "G") ⟨"list.append", m_append hc3, ?_⟩)
            walk_at "W"
            refine b_append hc3 hsz ?_
            walk_at "W"
            obtain ⟨f1, f2, f3⟩ := fin σ₃ m' _ (st.trans s1) hc3 s2 (by unfold cRow; rw [if_pos hnp, if_pos hse])
            exact ⟨f1, f2, f3, by walk_at "G", by walk_at "G", by walk_at "G", by walk_at "G", by walk_at "G", by walk_at "G", by walk_at "G"⟩
          · have hse : xn ∉ somes (es.take i) := by simpa using hin2
            walk_at "W"
            refine ev_meth1 (ev_local (by walk_at "G") ⟨"list.append", m_append hcl, ?_⟩)
            walk_at "W"
            refine b_append hcl hsz ?_
            walk_at "W"
            obtain ⟨f1, f2, f3⟩ := fin σ' m' _ st hcl r1 (by unfold cRow; rw [if_pos hnp, if_neg hse, List.append_nil])
            exact ⟨f1, f2, f3, by walk_at "G", by walk_at "G", by walk_at "G", by walk_at "G", by walk_at "G", by walk_at "G", by walk_at "G"⟩
    · obtain ⟨st, hcl, ⟨rows', r1, ee, el⟩, m1, m2, m3, m4, m5, m6, m7⟩ := hh
      rw [hxl, List.take_length] at hcl ee
      rw [List.drop_length] at ee
      have ee : rows' = rows ++ cRows mk ps [] es := by simpa [cRows] using ee
      subst ee
      have hq := st.leq _ _ rfl g3
      have hpa' := st.leq _ _ rfl hpa
      have ga' := st.leq _ _ rfl g1
      have sl : (somes es).length ≤ es.length := List.length_filterMap_le _ _
      have hir : iRows pm mk u es = cRows mk ps [] es ++ (if (somes es).length = 0 ∧ ps.length < es.length then [⟨mk, "too_many_ports", u⟩] else []) := by unfold iRows; rw [e2]
      walk_at "W"
      refine ev_callB Oc k.len_ boot_len ?_
      walk_at "W"
      refine b_len_list hcl (by rw [List.length_map]; (first | lia | omega)) ?_
      walk_at "W"
      have hlen0 : (((((somes es).map AV.str).length : Nat) : Int) == 0) = decide ((somes es).length = 0) := by
        rw [List.length_map]
        by_cases h : (somes es).length = 0
        · simp [h]
        · have : ¬ (((somes es).length : Int) = 0) := by (first | lia | omega)
          simp only [h, decide_false]
          exact beq_eq_false_iff_ne.mpr this
      refine ⟨fun h0 => ?_, fun h0 => ?_⟩
      · have hs0 : (somes es).length = 0 := by rw [hlen0] at h0; simpa using h0
        refine ts_cmp (ev_callB Oc k.len_ boot_len ?_)
        walk_at "W"
        refine b_len_tup hq (by (first | lia | omega)) (ev_callB Oc k.len_ boot_len ?_)
        walk_at "W"
        refine b_len_tup hpa' (by rw [List.length_map]; exact hpz) (cmp_gt_int ?_)
        rw [List.length_map]
        refine ⟨fun hgt => ?_, fun hgt => ?_⟩
        · have hgt' : ps.length < es.length := by
            have : ((ps.length : Nat) : Int) < ((xs.length : Nat) : Int) := by simpa using hgt
            (first | lia | omega)
          refine ex_cons (ex_expr (ev_tell k Oc (dp hc hd (Nat.le_of_ble_eq_true rfl)) (One L) rfl (by (first | lia | omega)) (ev_local (by walk_at "G") ⟨rfl, r1, ?_⟩)))
          walk_at "W"
          refine ⟨⟨mk, "too_many_ports", u⟩, rfl, r1, fun σ₃ s1 s2 s3 => ?_⟩
          repeat refine ex_nil ?_
          refine tailOk _ _ _ (st.trans s1) s2 (by walk_at "G") (by walk_at "G") (by walk_at "G") ?_
          rw [hir, if_pos ⟨hs0, hgt'⟩, List.append_assoc]
        · have hgt' : ¬ ps.length < es.length := by
            have : ¬ (((ps.length : Nat) : Int) < ((xs.length : Nat) : Int)) := by simpa using hgt
            (first | lia | omega)
          repeat refine ex_nil ?_
          refine tailOk _ _ _ st r1 (by walk_at "G") (by walk_at "G") (by walk_at "G") ?_
          rw [hir, if_neg (fun z => hgt' z.2), List.append_nil]
      · have hs0 : ¬ (somes es).length = 0 := by rw [hlen0] at h0; simpa using h0
        refine ⟨fun h => absurd h (by decide), fun _ => ?_⟩
        repeat refine ex_nil ?_
        refine tailOk _ _ _ st r1 (by walk_at "G") (by walk_at "G") (by walk_at "G") ?_
        rw [hir, if_neg (fun z => hs0 z.1), List.append_nil]
noncomputable def aRows (pm : PySem.Str → Option (List PySem.Str)) : It → List Row
  | .port _ _ => []
  | .inst mk u _ es => iRows pm mk u es
noncomputable def wt : It → Nat
  | .port _ _ => 0
  | .inst _ _ _ es => es.length + 3
noncomputable def wts (is : List It) : Nat := (is.map wt).sum
theorem aRows_le (pm : PySem.Str → Option (List PySem.Str)) (i : It) : (aRows pm i).length ≤ wt i := by
  cases i with
  | port mk n => exact Nat.le_refl _
  | inst mk u n es =>
    show (iRows pm mk u es).length ≤ es.length + 3
    unfold iRows
    cases pm u with
    | none => simp
    | some ps =>
      have := cRows_le mk ps es []
      simp only [List.length_append]
      split <;> simp <;> (first | lia | omega)
theorem check_items_spec (k : Kit K) (O : F.Ok K) (hd : 5 ≤ F.C.d) {R T L N I : Addr} {rows : List Row} {pm : PySem.Str → Option (List PySem.Str)} {xs : List AV} {is : List It}
    (h1 : Rep k σ R L (.ref N) rows) (hN : Nms σ N pm) (hI : σ I = some (.tup xs)) (hi : IsIts σ xs is) (hz : rows.length + wts is ≤ small) :
    CallF prog w F σ m k.check_items.f [.ref R, .ref T, .ref I] fun r σ' => Stp (One L) σ σ' ∧ Rep k σ' R L (.ref N) (rows ++ is.flatMap (aRows pm)) := by
  obtain ⟨lx, hL, _⟩ := id h1.lst
  obtain ⟨nds, hNd, _, _⟩ := id hN.dct
  have hLN : L ≠ N := ne_of' hL hNd (by intro h; cases h)
  refine callK k.check_items.fn O (Nat.le_trans (Nat.le_of_ble_eq_true rfl) hd) fun c Oc hc _ => ?_
  refine letQ ?_
  intro Qf
  have hlen := hi.length
  refine ex_cons (ex_for Oc ?_)
  walk_at "W"
  refine ⟨I, xs, rfl, .tup hI, for_inv (fun i σ' m' => Stp (One L) σ σ' ∧ (∃ rows', Rep k σ' R L (.ref N) rows' ∧ rows' ++ (is.drop i).flatMap (aRows pm) = rows ++ is.flatMap (aRows pm) ∧ rows'.length + wts (is.drop i) ≤ rows.length + wts is) ∧ get "report" m' = some (.ref R) ∧ get "table" m' = some (.ref T))
    ⟨Stp.refl _ _, ⟨rows, h1, rfl, Nat.le_refl _⟩, rfl, rfl⟩ (fun i σ' m' hh => by rw [hh.1.leq _ _ rfl hI, hI]) (fun i x σ' m' hx hh => ?_) (fun σ' m' hh => ?_)⟩
  · intro Qs
    obtain ⟨st, ⟨rows', r1, e1, e2⟩, m1, m2⟩ := hh
    obtain ⟨it, hdrop, hit⟩ := hi.get hx
    have hw : wts (is.drop i) = wt it + wts (is.drop (i + 1)) := by rw [hdrop]; rfl
    have hr : (is.drop i).flatMap (aRows pm) = aRows pm it ++ (is.drop (i + 1)).flatMap (aRows pm) := by rw [hdrop]; rfl
    have hit' := hit.leq st.leq
    have hN' : Nms σ' N pm := hN.keep st.leq (by rw [st.chg N _ (fun z => hLN z.symm) hNd, hNd])
    refine asg_name ?_
    cases hit' with
    | @port a mk n g1 =>
      walk_at "W"
      refine ev_callG k.check_declaration Oc ?_
      walk_at "W"
      refine (check_declaration_spec k Oc (dp hc hd (Nat.le_of_ble_eq_true rfl)) (by walk_at "S")).mono fun r σ'' e => ?_
      subst e
      walk_at "W"
      rename σ' _ = none => ht
      have st2 : Stp (One L) σ' (upd σ' _ (.tup [.str "param", .str "port", .str "net", .str "var"])) := Stp.new ht
      obtain ⟨lx', hL', _⟩ := id r1.lst
      refine ⟨st.trans st2, ⟨rows', r1.keep st2.leq (upd_old (ne_of hL' ht) rfl), ?_, ?_⟩, by walk_at "G", by walk_at "G"⟩
      · rw [← e1, hr]; rfl
      · rw [hw] at e2; (first | lia | omega)
    | @inst a p q mk u nn xs' es g1 g2 g3 g4 =>
      have hwi : wt (.inst mk u nn es) = es.length + 3 := rfl
      walk_at "W"
      refine ev_callG k.check_instance Oc ?_
      walk_at "W"
      rename σ' _ = none => ht
      have st2 : Stp (One L) σ' (upd σ' _ (.tup [.str "param", .str "port", .str "net", .str "var"])) := Stp.new ht
      obtain ⟨lx', hL', _⟩ := id r1.lst
      obtain ⟨nds', hNd', _, _⟩ := id hN'.dct
      refine (check_instance_spec k Oc (dp hc hd (Nat.le_of_ble_eq_true rfl)) (r1.keep st2.leq (upd_old (ne_of hL' ht) rfl)) (hN'.keep st2.leq (upd_old (ne_of hNd' ht) rfl)) (upd_new ht g1) (upd_new ht g2) (upd_new ht g3) (g4.leq st2.leq) (by (first | lia | omega))).mono fun r σ'' hh => ?_
      obtain ⟨s1, s2⟩ := hh
      walk_at "W"
      refine ⟨(st.trans st2).trans s1, ⟨_, s2, ?_, ?_⟩, by walk_at "G", by walk_at "G"⟩
      · rw [← e1, hr, List.append_assoc]; rfl
      · have := aRows_le pm (.inst mk u nn es)
        have e3 : (aRows pm (.inst mk u nn es)) = iRows pm mk u es := rfl
        rw [e3] at this
        rw [List.length_append]; (first | lia | omega)
  · obtain ⟨st, ⟨rows', r1, e1, e2⟩, m1, m2⟩ := hh
    rw [hlen, List.drop_length] at e1
    have e1 : rows' = rows ++ is.flatMap (aRows pm) := by simpa using e1
    subst e1
    exact ex_nil ⟨st, r1⟩
noncomputable def lamPos : Pos := match bodyOf (nth 54) with
  | [.Return (some (.Call _ _ [⟨_, .Lambda _ _ _ p, _⟩] _)) _] => p
  | _ => ⟨0, 0, 0, 0⟩
noncomputable def lamQ : PySem.Str := PySem.Str.ofString "in_order" ++ PySem.Str.ofString ".<locals>." ++ PySem.Str.ofString "<lambda>"
noncomputable def Tab (k : Kit K) (σ : Store) : Prop := TabOk k.tabP lamPos lamQ σ
theorem Stp.ext {P : Addr} {σ σ' : Store} {o : Array Value} (hP : σ P = some (.tab o)) (h : Ext P σ σ') : Stp (One P) σ σ' :=
  ⟨fun a o' i e => h a o' (fun z => by rw [z, hP] at e; cases e; cases i) e, fun a o' n e => h a o' n e⟩
theorem RowsK.stp {S : Addr → Prop} {σ' : Store} (hs : Stp S σ σ') {xs : List AV} {rs : List Row} (h : RowsK σ xs rs) : RowsK σ' xs rs := h.leq hs.leq

theorem in_order_spec (k : Kit K) (O : F.Ok K) (hd : 3 ≤ F.C.d) {l : Addr} {xs : List AV} {rs : List Row} (hl : σ l = some (.list xs)) (H : RowsK σ xs rs) (h64 : rs.length < 64) (tab : Tab k σ) :
    CallF prog w F σ m k.in_order.f [.ref l] fun v σ' => Stp (One k.tabP) σ σ' ∧ Tab k σ' ∧ ∃ D ys rs', v = .ref D ∧ σ D = none ∧ σ' D = some (.list ys) ∧ RowsK σ' ys rs' ∧ rs'.Perm rs ∧ rs'.Pairwise (fun a b => lt3 b a = false) := by
  refine callK k.in_order.fn O (Nat.le_trans (Nat.le_of_ble_eq_true rfl) hd) fun c Oc hc hcq => ?_
  refine letQ ?_
  intro Qf
  obtain ⟨o, ho⟩ := tab.at
  refine ex_cons (ex_ret (ev_sorted_key (x := PySem.Str.ofString "row") Oc (dp hc hd (Nat.le_of_ble_eq_true rfl)) (hcq.1.trans k.tabE) (by rw [hcq.2.1]; rfl) k.tabH k.sorted_ boot_sorted ?_ ?_ (by rfl) (by rfl) (by rfl) (by rfl) (by rfl) (ev_local rfl ⟨l, xs, rs, rfl, hl, H, h64, tab, fun D ys rs' σ₂ ext tab₂ hD rk pe pw => ?_⟩)))
  · intro c₂ σ₂ a r Oc₂ ha
    walk_at "W"
    exact ⟨_, rfl, by assumption, rfl⟩
  · intro pm c' ctv vs h
    match vs, h with
    | [v], _ => rfl
  · have st : Stp (One k.tabP) σ σ₂ := Stp.ext ho ext
    have hDP : D ≠ k.tabP := fun z => by
      obtain ⟨o', ho'⟩ := tab₂.at
      rw [z, ho'] at hD; cases hD
    have hσD : σ D = none := by
      cases e : σ D with
      | none => rfl
      | some o' => have := ext D o' hDP e; rw [hD] at this; cases this
    have st2 : Stp (One k.tabP) σ₂ (upd σ₂ D (.list ys)) := Stp.new hD
    refine ⟨st.trans st2, tab₂.up (fun a o e => upd_new hD e), D, ys, rs', rfl, hσD, upd_self, rk.leq st2.leq, pe, pw⟩
structure Md where
  mark : Int
  name : PySem.Str
  ports : List PySem.Str
  items : List It
structure IsMd (σ : Store) (v : AV) (M : Md) : Prop where
  ex : ∃ a e p i xs, v = .ref a ∧ σ a = some (.tup [.str "module", .int M.mark, .str M.name, .ref e, .ref p, .ref i, .str "wire"]) ∧ σ e = some (.tup []) ∧ σ p = some (.tup (M.ports.map .str)) ∧ σ i = some (.tup xs) ∧ IsIts σ xs M.items
theorem IsMd.leq {σ' : Store} (hs : Leq σ σ') {v : AV} {M : Md} (h : IsMd σ v M) : IsMd σ' v M := by
  obtain ⟨a, e, p, i, xs, h1, h2, h3, h4, h5, h6⟩ := h
  exact ⟨a, e, p, i, xs, h1, hs _ _ rfl h2, hs _ _ rfl h3, hs _ _ rfl h4, hs _ _ rfl h5, h6.leq hs⟩
noncomputable def lRow (em : PySem.Str → Option Bool) (mark : Int) (seen : List PySem.Str) (x : PySem.Str) : List Row := if x ∈ seen then [⟨mark, "duplicate", x⟩] else if em x = some true then [] else [⟨mark, "port_not_declared", x⟩]
noncomputable def lRows (em : PySem.Str → Option Bool) (mark : Int) : List PySem.Str → List PySem.Str → List Row
  | _, [] => []
  | seen, x :: xs => lRow em mark seen x ++ lRows em mark (seen ++ [x]) xs
noncomputable def nRow (ports : List PySem.Str) : It → List Row
  | .port mk n => if n ∈ ports then [] else [⟨mk, "port_not_listed", n⟩]
  | _ => []
noncomputable def em0 : PySem.Str → Option Bool := fun _ => none
noncomputable def checkRows (pm : PySem.Str → Option (List PySem.Str)) (M : Md) : List Row :=
  dRows em0 M.items ++ lRows (dEms em0 M.items) M.mark [] M.ports ++ M.items.flatMap (nRow M.ports) ++ M.items.flatMap (aRows pm)
theorem len_if {α : Type} {p : Prop} [Decidable p] {a b : List α} {n : Nat} (h1 : a.length ≤ n) (h2 : b.length ≤ n) : (if p then a else b).length ≤ n := by split <;> assumption
theorem lRow_le (em : PySem.Str → Option Bool) (mark : Int) (seen : List PySem.Str) (x : PySem.Str) : (lRow em mark seen x).length ≤ 1 :=
  len_if (Nat.le_refl _) (len_if (Nat.zero_le _) (Nat.le_refl _))
theorem nRow_le (ports : List PySem.Str) (i : It) : (nRow ports i).length ≤ 1 := by
  cases i with
  | port mk n => exact len_if (Nat.zero_le _) (Nat.le_refl _)
  | inst mk u n es => exact Nat.zero_le _
theorem dRows_le : ∀ (is : List It) (em : PySem.Str → Option Bool), (dRows em is).length ≤ is.length
  | [], _ => Nat.le_refl _
  | i :: is, em => by
    have h1 := dRow_le em i
    have h2 := dRows_le is (dEm em i)
    show (dRow em i ++ dRows (dEm em i) is).length ≤ is.length + 1
    rw [List.length_append]; (first | lia | omega)
theorem Stp.drop {S S' : Addr → Prop} {σ σ₁ σ₂ : Store} (h1 : Stp S' σ σ₁) (h2 : Stp S σ₁ σ₂) (hn : ∀ a, S a → σ a = none) : Stp S' σ σ₂ :=
  ⟨fun a o i e => h2.leq a o i (h1.leq a o i e), fun a o n e => h2.chg a o (fun z => by rw [hn a z] at e; cases e) (h1.chg a o n e)⟩
/-- a unit's sizes -/
structure Md.Small (M : Md) : Prop where
  ports : M.ports.length ≤ 10
  items : M.items.length ≤ 10
  wt : wts M.items ≤ 100

theorem Tab.up' {k : Kit K} {σ' : Store} (h : Tab k σ) (hs : Stp (fun _ => False) σ σ') : Tab k σ' := TabOk.up (fun a o e => hs.chg a o (fun z => z) e) h
theorem check_module_spec (k : Kit K) (O : F.Ok K) (hd : 6 ≤ F.C.d) {v : AV} {N : Addr} {M : Md} {pm : PySem.Str → Option (List PySem.Str)} (hM : IsMd σ v M) (hs : M.Small) (hN : Nms σ N pm) (tab : Tab k σ) (h64 : (checkRows pm M).length < 64) :
    CallF prog w F σ m k.check_module.f [v, .ref N] fun r σ' => Stp (One k.tabP) σ σ' ∧ Tab k σ' ∧ ∃ D ys rs', r = .ref D ∧ σ D = none ∧ σ' D = some (.list ys) ∧ RowsK σ' ys rs' ∧ rs'.Perm (checkRows pm M) := by
  obtain ⟨a, e, p, i, xs, rfl, ha, he, hp, hi, hits⟩ := hM
  obtain ⟨nds, hNd, _, _⟩ := id hN.dct
  have hs1 := hs.ports
  have hs2 := hs.items
  have hs3 := hs.wt
  have hsm : small = 1000 := rfl
  refine callK k.check_module.fn O (Nat.le_trans (Nat.le_of_ble_eq_true rfl) hd) fun c Oc hc _ => ?_
  refine letQ ?_
  intro Qf
  refine ex_cons (ex_assign (ev_callF Oc k.reportN k.reportK ?_))
  walk_at "W"
  refine report_spec k Oc (dp hc hd (Nat.le_of_ble_eq_true rfl)) fun R Rd L σ₁ r1 r2 r3 c1 o1 o2 o3 => ?_
  have st1 : Stp (fun _ => False) σ σ₁ := Stp.of c1
  walk_at "W"
  refine ev_callF Oc k.tableN k.tableK ?_
  walk_at "W"
  refine table_spec k Oc (dp hc hd (Nat.le_of_ble_eq_true rfl)) fun T Td E σ₂ t1 t2 t3 c2 q1 q2 q3 => ?_
  have st2 : Stp (fun _ => False) σ₁ σ₂ := Stp.of c2
  have rep2 : Rep k σ₂ R L (.ref N) [] := ⟨⟨Rd, st2.leq _ _ rfl o1, st2.leq _ _ rfl o2⟩, [], c2 _ _ (fun z => z) o3, .nil⟩
  have tbl2 : Tbl k σ₂ T E em0 0 := ⟨⟨Td, _, q1, q2⟩, [], q3, Nat.le_refl _, fun x => .inl ⟨rfl, rfl⟩⟩
  have ha2 := st2.leq _ _ rfl (st1.leq _ _ rfl ha)
  have he2 := st2.leq _ _ rfl (st1.leq _ _ rfl he)
  have hp2 := st2.leq _ _ rfl (st1.leq _ _ rfl hp)
  have hi2 := st2.leq _ _ rfl (st1.leq _ _ rfl hi)
  walk_at "W"
  refine ev_callTy Oc k.tuple_ boot_tuple ?_
  walk_at "W"
  refine t_tuple_tup he2 (ev_callTy Oc k.tuple_ boot_tuple ?_)
  walk_at "W"
  refine t_tuple_tup hi2 ?_
  have hxl := hits.length
  refine bin_add_tup he2 hi2 (by show 0 + xs.length ≤ small; (first | lia | omega)) (fun _ => ?_) (fun h => absurd rfl h) (fun h => absurd rfl h)
  have hits2 : IsIts σ₂ xs M.items := (hits.leq st1.leq).leq st2.leq
  walk_at "W"
  refine ev_callG k.declare_items Oc ?_
  walk_at "W"
  refine (declare_items_spec k Oc (dp hc hd (Nat.le_of_ble_eq_true rfl)) rep2 tbl2 hi2 hits2 (by simp; (first | lia | omega)) (by (first | lia | omega))).mono fun r σ₃ hh => ?_
  obtain ⟨st3, rep3, tbl3⟩ := hh
  rw [List.nil_append] at rep3
  walk_at "W"
  rename σ₃ _ = none => hls
  rename_i ls
  have hE3 : ∃ es, σ₃ E = some (.dict es) := by obtain ⟨es, h, _⟩ := tbl3.dct; exact ⟨es, h⟩
  obtain ⟨es3, hE3⟩ := hE3
  obtain ⟨lx3, hL3, _⟩ := id rep3.lst
  have hLE : L ≠ E := ne_of' hL3 hE3 (by intro h; cases h)
  have hlsL : L ≠ ls := ne_of hL3 hls
  have hlsE : E ≠ ls := ne_of hE3 hls
  have hdl := dRows_le M.items em0
  have st0 : Stp (One L) σ₃ (upd σ₃ ls (.list [])) := Stp.new hls
  have ha3 := st3.leq _ _ rfl ha2
  have hp3 := st3.leq _ _ rfl hp2
  have hi3 := st3.leq _ _ rfl hi2
  have keepT : ∀ σ', Stp (One L) σ₃ σ' → Tbl k σ' T E (dEms em0 M.items) (0 + M.items.length) := fun σ' st => tbl3.keep st.leq (by rw [st.chg E _ (fun z => hLE z.symm) hE3, hE3])
  refine ex_for Oc ?_
  walk_at "W"
  refine ⟨p, _, rfl, .tup (upd_new hls hp3), for_inv (fun j σ' m' => Stp (One L) σ₃ σ' ∧ σ' ls = some (.list ((M.ports.take j).map .str)) ∧ (∃ rows', Rep k σ' R L (.ref N) rows' ∧ rows' ++ lRows (dEms em0 M.items) M.mark (M.ports.take j) (M.ports.drop j) = dRows em0 M.items ++ lRows (dEms em0 M.items) M.mark [] M.ports ∧ rows'.length ≤ (dRows em0 M.items).length + j) ∧
      get "report" m' = some (.ref R) ∧ get "table" m' = some (.ref T) ∧ get "items" m' = some (.ref i) ∧ get "module" m' = some (.ref a) ∧ get "listed" m' = some (.ref ls))
    ⟨st0, upd_self, ⟨_, rep3.keep st0.leq (upd_old hlsL rfl), by simp, Nat.le_refl _⟩, by walk_at "G", by walk_at "G", by walk_at "G", by walk_at "G", by walk_at "G"⟩
    (fun j σ' m' hh => by rw [hh.1.leq _ _ rfl hp3, upd_new hls hp3]) (fun j x σ' m' hx hh => ?_) (fun σ' m' hh => ?_)⟩
  · intro Qs
    obtain ⟨st, hl, ⟨rows', rep, e1, e2⟩, m1, m2, m3, m4, m5⟩ := hh
    have hj : j < M.ports.length := by
      have := (List.getElem?_eq_some_iff.mp hx).1
      simpa using this
    obtain ⟨xn, rfl, hxn⟩ : ∃ xn, x = .str xn ∧ M.ports[j]? = some xn := by
      rw [List.getElem?_map] at hx
      cases q : M.ports[j]? with
      | none => rw [q] at hx; cases hx
      | some y => rw [q] at hx; cases hx; exact ⟨y, rfl, rfl⟩
    have hdrop : M.ports.drop j = xn :: M.ports.drop (j + 1) := by
      rw [List.drop_eq_getElem_cons hj]
      rw [List.getElem?_eq_getElem hj] at hxn
      cases hxn; rfl
    have htake : M.ports.take (j + 1) = M.ports.take j ++ [xn] := by
      rw [List.take_succ_eq_append_getElem hj]
      rw [List.getElem?_eq_getElem hj] at hxn
      cases hxn; rfl
    have hlr : lRows (dEms em0 M.items) M.mark (M.ports.take j) (M.ports.drop j) = lRow (dEms em0 M.items) M.mark (M.ports.take j) xn ++ lRows (dEms em0 M.items) M.mark (M.ports.take (j + 1)) (M.ports.drop (j + 1)) := by rw [hdrop, htake]; rfl
    have hsz : ((M.ports.take j).map AV.str).length ≤ small := by rw [List.length_map, List.length_take]; (first | lia | omega)
    have ha' := st.leq _ _ rfl ha3
    have fin : ∀ (σ₄ : Store) (rows₄ : List Row), Stp (One L) σ₃ σ₄ → σ₄ ls = some (.list ((M.ports.take j).map .str)) → Rep k σ₄ R L (.ref N) rows₄ → rows₄ = rows' ++ lRow (dEms em0 M.items) M.mark (M.ports.take j) xn →
        Stp (One L) σ₃ (upd σ₄ ls (.list ((M.ports.take j).map .str ++ [.str xn]))) ∧ upd σ₄ ls (.list ((M.ports.take j).map .str ++ [.str xn])) ls = some (.list ((M.ports.take (j + 1)).map .str)) ∧
        ∃ rows', Rep k (upd σ₄ ls (.list ((M.ports.take j).map .str ++ [.str xn]))) R L (.ref N) rows' ∧ rows' ++ lRows (dEms em0 M.items) M.mark (M.ports.take (j + 1)) (M.ports.drop (j + 1)) = dRows em0 M.items ++ lRows (dEms em0 M.items) M.mark [] M.ports ∧ rows'.length ≤ (dRows em0 M.items).length + (j + 1) := by
      intro σ₄ rows₄ s4 c4 r4 e4
      refine ⟨s4.atNew hls, ?_, rows₄, r4.keep (Stp.at (S := fun _ => True) trivial c4 rfl).leq (upd_old hlsL rfl), ?_, ?_⟩
      · rw [upd_self, strs_snoc, htake]
      · rw [e4, List.append_assoc, ← hlr, e1]
      · have := lRow_le (dEms em0 M.items) M.mark (M.ports.take j) xn
        rw [e4, List.length_append]; (first | lia | omega)
    have T' := keepT σ' st
    refine asg_name ?_
    walk_at "W"
    refine cmp_in_list hl (eqA_strs _ (.inl ⟨_, rfl⟩) _) ?_
    rw [anyEq_str]
    refine ⟨fun hin => ?_, fun hin => ?_⟩
    · have hse : xn ∈ M.ports.take j := by simpa using hin
      refine ex_cons (ex_expr (ev_tell k Oc (dp hc hd (Nat.le_of_ble_eq_true rfl)) (One L) rfl (by (first | lia | omega)) (ev_local (by walk_at "G") ⟨rfl, rep, ?_⟩)))
      walk_at "W"
      refine ⟨⟨M.mark, "duplicate", xn⟩, rfl, rep, fun σ₄ s1 s2 s3 => ?_⟩
      have hl4 := s3 _ _ hlsL.symm hl
      walk_at "W"
      refine ev_meth1 (ev_local (by walk_at "G") ⟨"list.append", m_append hl4, ?_⟩)
      walk_at "W"
      refine b_append hl4 hsz ?_
      walk_at "W"
      obtain ⟨f1, f2, f3⟩ := fin σ₄ _ (st.trans s1) hl4 s2 (by unfold lRow; rw [if_pos hse])
      exact ⟨f1, f2, f3, by walk_at "G", by walk_at "G", by walk_at "G", by walk_at "G", by walk_at "G"⟩
    · have hse : xn ∉ M.ports.take j := by simpa using hin
      refine ex_cons (ex_if (Tr.mono (Q := fun b σ₄ => b = decide (¬ dEms em0 M.items xn = some true) ∧ Chg (fun _ => False) σ' σ₄) ?_ ?_))
      · obtain ⟨es', hE', _, hem⟩ := id T'.dct
        refine ts_or (ts_cmp (ev_local (by walk_at "G") (ev_entries k Oc (ev_local (by walk_at "G") ⟨rfl, T', cmp_notin_dict hE' ⟨fun hin => ?_, fun hin => ?_⟩⟩))))
        · have : dEms em0 M.items xn = none := by
            rcases hem xn with ⟨_, b⟩ | ⟨v, b, a, _⟩
            · exact b
            · rw [a] at hin; cases hin
          refine ⟨?_, Chg.refl _ _⟩
          rw [this]; simp
        · obtain ⟨v, b, hv, hb, ent⟩ : ∃ v b, get xn es' = some v ∧ dEms em0 M.items xn = some b ∧ EntA σ' v b := by
            rcases hem xn with ⟨a, _⟩ | h
            · rw [a] at hin; cases hin
            · exact h
          refine ts_not (ts_value (ev_callG k.is_port Oc (evl_cons (ev_sub (ev_entries k Oc (ev_local (by walk_at "G") ⟨rfl, T', ev_local (by walk_at "G") <| subq_dict hE' hv (evl_nil ?_)⟩))))))
          refine (is_port_spec k Oc (dp hc hd (Nat.le_of_ble_eq_true rfl)) ent).mono fun r σ₄ hh => ?_
          refine ⟨b, hh.1, ?_, hh.2⟩
          rw [hb]; cases b <;> simp
      · rintro b σ₄ ⟨rfl, cg⟩
        have s4 : Stp (One L) σ' σ₄ := Stp.of cg
        obtain ⟨lx', hL', _⟩ := id rep.lst
        have rep4 := rep.keep s4.leq ((cg _ _ (fun z => z) hL').trans hL'.symm)
        have hl4 := cg _ _ (fun z => z) hl
        have ha4 := s4.leq _ _ rfl ha'
        refine ⟨fun hb => ?_, fun hb => ?_⟩
        · have hb' : ¬ dEms em0 M.items xn = some true := by simpa using hb
          refine ex_cons (ex_expr (ev_tell k Oc (dp hc hd (Nat.le_of_ble_eq_true rfl)) (One L) rfl (by (first | lia | omega)) (ev_local (by walk_at "G") ⟨rfl, rep4, ?_⟩)))
          walk_at "W"
          refine ⟨⟨M.mark, "port_not_declared", xn⟩, rfl, rep4, fun σ₅ s1 s2 s3 => ?_⟩
          have hl5 := s3 _ _ hlsL.symm hl4
          walk_at "W"
          refine ev_meth1 (ev_local (by walk_at "G") ⟨"list.append", m_append hl5, ?_⟩)
          walk_at "W"
          refine b_append hl5 hsz ?_
          walk_at "W"
          obtain ⟨f1, f2, f3⟩ := fin σ₅ _ ((st.trans s4).trans s1) hl5 s2 (by unfold lRow; rw [if_neg hse, if_neg hb'])
          exact ⟨f1, f2, f3, by walk_at "G", by walk_at "G", by walk_at "G", by walk_at "G", by walk_at "G"⟩
        · have hb' : dEms em0 M.items xn = some true := by simpa using hb
          walk_at "W"
          refine ev_meth1 (ev_local (by walk_at "G") ⟨"list.append", m_append hl4, ?_⟩)
          walk_at "W"
          refine b_append hl4 hsz ?_
          walk_at "W"
          obtain ⟨f1, f2, f3⟩ := fin σ₄ _ (st.trans s4) hl4 rep4 (by unfold lRow; rw [if_neg hse, if_pos hb', List.append_nil])
          exact ⟨f1, f2, f3, by walk_at "G", by walk_at "G", by walk_at "G", by walk_at "G", by walk_at "G"⟩
  · obtain ⟨st, hl, ⟨rows', rep, e1, e2⟩, m1, m2, m3, m4, m5⟩ := hh
    rw [List.length_map] at hl e1 e2
    rw [List.take_length, List.drop_length] at e1
    rw [List.take_length] at hl
    have e1 : rows' = dRows em0 M.items ++ lRows (dEms em0 M.items) M.mark [] M.ports := by simpa [lRows] using e1
    have hits4 := (hits2.leq st3.leq).leq st.leq
    have hi4 := st.leq _ _ rfl hi3
    have hz4 : (dRows em0 M.items ++ lRows (dEms em0 M.items) M.mark [] M.ports).length ≤ 20 := by rw [← e1]; (first | lia | omega)
    subst e1
    obtain ⟨lx4, hL4, _⟩ := id rep.lst
    refine ex_cons (ex_for Oc ?_)
    walk_at "W"
    refine ⟨i, xs, rfl, .tup hi4, for_inv (fun j σ₄ m₄ => Stp (One L) σ' σ₄ ∧ (∃ rows₄, Rep k σ₄ R L (.ref N) rows₄ ∧ rows₄ ++ (M.items.drop j).flatMap (nRow M.ports) = (dRows em0 M.items ++ lRows (dEms em0 M.items) M.mark [] M.ports) ++ M.items.flatMap (nRow M.ports) ∧ rows₄.length ≤ 20 + j) ∧
        get "report" m₄ = some (.ref R) ∧ get "table" m₄ = some (.ref T) ∧ get "items" m₄ = some (.ref i) ∧ get "listed" m₄ = some (.ref ls))
      ⟨Stp.refl _ _, ⟨_, rep, rfl, hz4⟩, m1, m2, m3, m5⟩ (fun j σ₄ m₄ hh => by rw [hh.1.leq _ _ rfl hi4, hi4]) (fun j x σ₄ m₄ hx hh => ?_) (fun σ₄ m₄ hh => ?_)⟩
    · intro Qs
      obtain ⟨st4, ⟨rows₄, rep4, f1, f2⟩, n1, n2, n3, n5⟩ := hh
      obtain ⟨it, hdrop, hit⟩ := hits4.get hx
      have hj : j < M.items.length := by
        have := (List.getElem?_eq_some_iff.mp hx).1
        (first | lia | omega)
      have hr : (M.items.drop j).flatMap (nRow M.ports) = nRow M.ports it ++ (M.items.drop (j + 1)).flatMap (nRow M.ports) := by rw [hdrop]; rfl
      have hl4 : σ₄ ls = some (.list (M.ports.map .str)) := st4.chg ls _ (fun z => hlsL z.symm) hl
      have hit4 := hit.leq st4.leq
      refine asg_name ?_
      cases hit4 with
      | @port b mk n g1 =>
        walk_at "W"
        refine cmp_notin_list hl4 (eqA_strs _ (.inl ⟨_, rfl⟩) _) ?_
        rw [anyEq_str]
        refine ⟨fun hin => ?_, fun hin => ?_⟩
        · have hnp : n ∉ M.ports := by simpa using hin
          refine ex_cons (ex_expr (ev_tell k Oc (dp hc hd (Nat.le_of_ble_eq_true rfl)) (One L) rfl (by (first | lia | omega)) (ev_local (by walk_at "G") ⟨rfl, rep4, ?_⟩)))
          walk_at "W"
          refine ⟨⟨mk, "port_not_listed", n⟩, rfl, rep4, fun σ₅ s1 s2 s3 => ?_⟩
          walk_at "W"
          refine ⟨st4.trans s1, ⟨_, s2, ?_, ?_⟩, by walk_at "G", by walk_at "G", by walk_at "G", by walk_at "G"⟩
          · rw [← f1, hr, List.append_assoc]
            have : nRow M.ports (.port mk n) = [⟨mk, "port_not_listed", n⟩] := if_neg hnp
            rw [this]
          · rw [List.length_append]; simp; (first | lia | omega)
        · have hnp : n ∈ M.ports := by simpa using hin
          walk_at "W"
          refine ⟨st4, ⟨rows₄, rep4, ?_, by (first | lia | omega)⟩, by walk_at "G", by walk_at "G", by walk_at "G", by walk_at "G"⟩
          rw [← f1, hr]
          have : nRow M.ports (.port mk n) = [] := if_pos hnp
          rw [this]; rfl
      | inst g1 g2 g3 g4 =>
        walk_at "W"
        refine ⟨st4, ⟨rows₄, rep4, ?_, by (first | lia | omega)⟩, by walk_at "G", by walk_at "G", by walk_at "G", by walk_at "G"⟩
        rw [← f1, hr]; rfl
    · obtain ⟨st4, ⟨rows₄, rep4, f1, f2⟩, n1, n2, n3, n5⟩ := hh
      rw [hxl, List.drop_length] at f1
      have f1 : rows₄ = (dRows em0 M.items ++ lRows (dEms em0 M.items) M.mark [] M.ports) ++ M.items.flatMap (nRow M.ports) := by simpa using f1
      subst f1
      have stA : Stp (fun _ => False) σ σ₂ := st1.trans st2
      have hLσ : σ L = none := r3
      have hEσ : σ E = none := by
        cases z : σ E with
        | none => rfl
        | some o => have := c1 _ _ (fun z => z) z; rw [t3] at this; cases this
      have stB : Stp (fun _ => False) σ σ₃ := stA.drop st3 (fun a h => by rcases h with rfl | rfl <;> assumption)
      have stC : Stp (fun _ => False) σ σ₄ := (stB.drop st (fun a h => by cases h; exact hLσ)).drop st4 (fun a h => by cases h; exact hLσ)
      have hN4 : Nms σ₄ N pm := hN.keep stC.leq ((stC.chg _ _ (fun z => z) hNd).trans hNd.symm)
      refine ex_cons (ex_expr (ev_callG k.check_items Oc ?_))
      walk_at "W"
      refine (check_items_spec k Oc (dp hc hd (Nat.le_of_ble_eq_true rfl)) rep4 hN4 (st4.leq _ _ rfl hi4) (hits4.leq st4.leq) (by rw [hxl] at f2; (first | lia | omega))).mono fun r σ₅ hh => ?_
      obtain ⟨s5, rep5⟩ := hh
      have hrows : (dRows em0 M.items ++ lRows (dEms em0 M.items) M.mark [] M.ports) ++ M.items.flatMap (nRow M.ports) ++ M.items.flatMap (aRows pm) = checkRows pm M := rfl
      rw [hrows] at rep5
      have stD : Stp (fun _ => False) σ σ₅ := stC.drop s5 (fun a h => by cases h; exact hLσ)
      have tab5 : Tab k σ₅ := tab.up' stD
      obtain ⟨⟨Rd5, p1, p2⟩, xs5, p3, p4⟩ := id rep5
      walk_at "W"
      refine ev_callG k.in_order Oc (evl_cons (ev_attr Oc (ev_local (by walk_at "G") ⟨R, k.Report, Rd5, _, .ref L, rfl, p1, p2, rfl, rfl, (k.reportS "rows" (by decide)).2, ?_⟩)))
      walk_at "W"
      refine (in_order_spec k Oc (dp hc hd (Nat.le_of_ble_eq_true rfl)) p3 p4 h64 tab5).mono fun r σ₆ hh => ?_
      obtain ⟨s6, tab6, D, ys, rs', rfl, hD, hy, rk, pe, _⟩ := hh
      refine ⟨(stD.weak fun _ z => z.elim).trans s6, tab6, D, ys, rs', rfl, ?_, hy, rk, pe⟩
      cases z : σ D with
      | none => rfl
      | some o => have := stD.chg _ _ (fun z => z) z; rw [hD] at this; cases this
theorem law_port_spec (k : Kit K) (O : F.Ok K) (hd : 1 ≤ F.C.d) {mk : Int} {n : PySem.Str} : CallF prog w F σ m k.law_port.f [.int mk, .str n] fun r σ' => Stp (fun _ => False) σ σ' ∧ IsIt σ' r (.port mk n) := by
  refine callK k.law_port.fn O hd fun c Oc hc _ => ?_
  refine letQ ?_
  intro Qf
  refine ex_cons ?_
  walk_at "W"
  rename σ _ = none => ht
  exact ⟨Stp.new ht, .port upd_self⟩

/-- the feed: its cells, the number in hand, the seed -/
structure Fd (σ : Store) (Fa Ca : Addr) : Prop where
  ex : ∃ (cs : List Int) (cur seed : Int), σ Fa = some (.list [.ref Ca, .int cur, .int seed]) ∧ σ Ca = some (.list (cs.map .int)) ∧ cs.length ≤ 100 ∧ (∀ c ∈ cs, 0 ≤ c) ∧ 0 ≤ cur ∧ 0 ≤ seed ∧ seed < 2 ^ 31
theorem Fd.keep {S : Addr → Prop} {σ' : Store} {Fa Ca : Addr} (h : Fd σ Fa Ca) (hs : Stp S σ σ') (h1 : ¬ S Fa) (h2 : ¬ S Ca) : Fd σ' Fa Ca := by
  obtain ⟨cs, cur, seed, e1, e2, r⟩ := h
  exact ⟨cs, cur, seed, hs.chg _ _ h1 e1, hs.chg _ _ h2 e2, r⟩
theorem fmod_pos {a b : Int} (hb : 0 < b) : 0 ≤ a.fmod b ∧ a.fmod b < b := ⟨Int.fmod_nonneg_of_pos a hb, Int.fmod_lt_of_pos a hb⟩
theorem fdiv_nn {a b : Int} (ha : 0 ≤ a) (hb : 0 < b) : 0 ≤ a.fdiv b := by
  rw [Int.fdiv_eq_ediv_of_nonneg _ (by (first | lia | omega))]
  exact Int.ediv_nonneg ha (by (first | lia | omega))
noncomputable def Fds (Fa Ca : Addr) : Addr → Prop := fun a => a = Fa ∨ a = Ca

theorem law_pick_spec (k : Kit K) (O : F.Ok K) (hd : 1 ≤ F.C.d) {Fa Ca : Addr} {n : Int} (h : Fd σ Fa Ca) (hn : 0 < n) (hn2 : n < 100) : CallF prog w F σ m k.law_pick.f [.ref Fa, .int n] fun r σ' => Stp (Fds Fa Ca) σ σ' ∧ Fd σ' Fa Ca ∧ ∃ i : Int, r = .int i ∧ 0 ≤ i ∧ i < n := by
  obtain ⟨cs, cur, seed, hF, hC, hz, hcs, hcur, hs0, hs1⟩ := h
  have hFC : Fa ≠ Ca := ne_of' hF hC (by
    intro h
    have := congrArg (fun o => match o with | AO.list (.ref _ :: _) => true | _ => false) h
    cases cs <;> simp at this)
  refine callK k.law_pick.fn O hd fun c Oc hc _ => ?_
  refine letQ ?_
  intro Qf
  -- the second half
  have half : ∀ (σ₁ : Store) (m₁ : Loc) (cs₁ : List Int) (cur₁ seed₁ : Int), Stp (Fds Fa Ca) σ σ₁ → σ₁ Fa = some (.list [.ref Ca, .int cur₁, .int seed₁]) → σ₁ Ca = some (.list (cs₁.map .int)) → cs₁.length ≤ 100 → (∀ c ∈ cs₁, 0 ≤ c) → 0 ≤ cur₁ → 0 ≤ seed₁ → seed₁ < 2 ^ 31 → get "feed" m₁ = some (.ref Fa) → get "many" m₁ = some (.int n) →
      Ex prog w (c.fm (scOf (nth 58)) none) σ₁ m₁ ((bodyOf (nth 58)).drop 1) fun fl σ' _ => Stp (Fds Fa Ca) σ σ' ∧ Fd σ' Fa Ca ∧ ∃ i : Int, retOf fl = .int i ∧ 0 ≤ i ∧ i < n := by
    intro σ₁ m₁ cs₁ cur₁ seed₁ st e1 e2 e3 e4 e5 e6 e7 g1 g2
    refine ex_cons ?_
    walk_at "W"
    refine ev_callTy Oc k.int_ boot_int ?_
    walk_at "W"
    refine t_int ?_
    walk_at "W"
    refine bin_mod_int (by (first | lia | omega)) ?_
    walk_at "W"
    refine ex_assign_sub ?_
    walk_at "W"
    refine bin_div_int (by (first | lia | omega)) (Nat.lt_of_le_of_lt (Nat.log2_le_self _) (by (first | lia | omega))) ?_
    walk_at "W"
    refine seti_list e1 (by decide) (by decide) (by show (1 : Int) < ((3 : Nat) : Int); decide) ?_
    walk_at "W"
    have hFCn : Ca ≠ Fa := fun z => hFC z.symm
    have hp := fmod_pos (a := cur₁) hn
    refine ⟨st.trans (Stp.at (.inl rfl) e1 rfl), ⟨cs₁, cur₁.fdiv n, seed₁, by rw [upd_self]; rfl, upd_old hFCn e2, e3, e4, fdiv_nn e5 hn, e6, e7⟩, cur₁.fmod n, rfl, hp.1, hp.2⟩
  have hFCn : Ca ≠ Fa := fun z => hFC z.symm
  refine ex_cons ?_
  refine ex_if ?_
  walk_at "W"
  refine ⟨fun h0 => ?_, fun h0 => ex_nil (half σ _ cs cur seed (Stp.refl _ _) hF hC hz hcs hcur hs0 hs1 rfl rfl)⟩
  refine ex_cons (ex_if (ts_cmp ?_))
  walk_at "W"
  rename σ _ = none => ht
  refine cmp_eq_list Oc (upd_new ht hC) upd_self (by intro x _ y hy; cases hy) ?_
  have st0 : Stp (Fds Fa Ca) σ (upd σ _ (.list [])) := Stp.new ht
  cases cs with
  | nil =>
    refine ⟨fun _ => ?_, fun h => absurd h (by decide)⟩
    refine ex_cons (ex_assign_sub ?_)
    walk_at "W"
    refine ev_callTy Oc k.int_ boot_int ?_
    refine evl_cons (ev_sub (ev_local rfl (ev_int <| subq_list (upd_new ht hF) (by decide) (by decide) (by rfl) (evl_nil (t_int ?_)))))
    walk_at "W"
    refine bin_mul_int (IntMulOk.of_right (by decide +kernel)) ?_
    walk_at "W"
    refine bin_mod_int (by decide) ?_
    have hp := fmod_pos (a := seed * 48271) (b := 2147483647) (by decide)
    walk_at "W"
    refine seti_list (upd_new ht hF) (by decide) (by decide) (by show (2 : Int) < ((3 : Nat) : Int); decide) ?_
    refine ex_cons (ex_assign_sub ?_)
    walk_at "W"
    refine bin_div_int (by decide) (by decide +kernel) ?_
    walk_at "W"
    refine seti_list upd_self (by decide) (by decide) (by show (1 : Int) < ((3 : Nat) : Int); decide) ?_
    refine ex_nil (ex_nil ?_)
    refine half _ _ [] (((seed * 48271).fmod 2147483647).fdiv 5) ((seed * 48271).fmod 2147483647) ((st0.trans (Stp.at (.inl rfl) (upd_new ht hF) rfl)).trans (Stp.at (.inl rfl) upd_self rfl)) (by rw [upd_self]; rfl) (upd_old hFCn (upd_old hFCn (upd_new ht hC))) (by simp) hcs (fdiv_nn hp.1 (by decide)) hp.1 (Int.lt_trans hp.2 (by decide)) rfl rfl
  | cons c1 cs =>
    refine ⟨fun h => absurd h (by simp), fun _ => ?_⟩
    refine ex_cons (ex_assign_sub ?_)
    refine ev_meth1 (ev_sub (ev_local rfl (ev_int <| subq_list (upd_new ht hF) (by decide) (by decide) (by rfl) ⟨"list.pop", m_pop (upd_new ht hC), ?_⟩)))
    walk_at "W"
    refine b_pop0 (upd_new ht hC) (by simp at hz ⊢; unfold small; (first | lia | omega)) ?_
    walk_at "W"
    have hFt := ne_of hF ht
    have hCt := ne_of hC ht
    refine seti_list (upd_old hFC (upd_new ht hF)) (by decide) (by decide) (by show (1 : Int) < ((3 : Nat) : Int); decide) ?_
    refine ex_nil (ex_nil ?_)
    refine half _ _ cs c1 seed ((st0.trans (Stp.at (.inr rfl) (upd_new ht hC) rfl)).trans (Stp.at (.inl rfl) (upd_old hFC (upd_new ht hF)) rfl)) (by rw [upd_self]; rfl) (upd_old hFCn upd_self) (by simp at hz; (first | lia | omega)) (fun c hc => hcs c (.tail _ hc)) (hcs c1 (.head _)) hs0 hs1 rfl rfl
theorem cmp_inv {F' : Fm} {target elt : PySem.Expr} {l : Addr} {o₀ : Option AO} {Q : List AV → Store → Prop} {xs : List AV} (I : Nat → List AV → Store → Loc → Prop) (h0 : I 0 [] σ m) (hk : ∀ i ys σ m, I i ys σ m → σ l = o₀ ∧ ys.length ≤ small)
    (hstep : ∀ i x ys σ m, xs[i]? = some x → I i ys σ m → Asg prog w F' σ m target x fun m₁ => Ev prog w F' σ m₁ elt fun y σ₂ => I (i + 1) (ys ++ [y]) σ₂ m₁) (hend : ∀ ys σ m, I xs.length ys σ m → Q ys σ) : CmpP prog w F' target elt l o₀ Q xs [] σ m := by
  have key : ∀ (n i : Nat) (ys : List AV) (σ : Store) (m : Loc), xs.length - i = n → i ≤ xs.length → I i ys σ m → CmpP prog w F' target elt l o₀ Q (xs.drop i) ys σ m := by
    intro n
    induction n with
    | zero =>
      intro i ys σ m hn hi h
      have : i = xs.length := by (first | lia | omega)
      subst this
      rw [List.drop_length]
      exact ⟨(hk _ _ _ _ h).1, (hk _ _ _ _ h).2, hend _ _ _ h⟩
    | succ n ih =>
      intro i ys σ m hn hi h
      have hlt : i < xs.length := by (first | lia | omega)
      rw [List.drop_eq_getElem_cons hlt]
      refine ⟨(hk _ _ _ _ h).1, (hk _ _ _ _ h).2, ?_⟩
      have st := hstep i xs[i] ys σ m (List.getElem?_eq_getElem hlt) h
      intro u r fr s Q' E S kk
      exact st u r fr s Q' E S fun h' tk m' S' q => kk h' tk m' S' (q.mono fun y σ₂ hh => ih (i + 1) (ys ++ [y]) σ₂ m' (by (first | lia | omega)) hlt hh)
  have := key (xs.length - 0) 0 [] σ m rfl (Nat.zero_le _) h0
  rw [List.drop_zero] at this
  exact this
theorem IsConns.snoc {xs : List AV} {es : List (Option PySem.Str)} {a o b : Addr} {e : Option PySem.Str} {mk : Int} (h : IsConns σ xs es) (h1 : σ a = some (.tup [oS e, .ref o])) (h2 : σ o = some (.tup [.str "num", .int mk, .ref b, .bool false, .bool true])) : IsConns σ (xs ++ [.ref a]) (es ++ [e]) := by
  induction h with
  | nil => exact .cons h1 h2 .nil
  | cons g1 g2 _ ih => exact .cons g1 g2 ih

theorem law_instance_spec (k : Kit K) (O : F.Ok K) (hd : 1 ≤ F.C.d) {mk : Int} {u : PySem.Str} {nn : Option PySem.Str} {le : Addr} {es : List (Option PySem.Str)} (h : σ le = some (.list (es.map oS))) (hz : es.length ≤ 100) :
    CallF prog w F σ m k.law_instance.f [.int mk, .str u, oS nn, .ref le] fun r σ' => Stp (fun _ => False) σ σ' ∧ IsIt σ' r (.inst mk u nn es) := by
  refine callKC (PySem.Str.ofString "one") k.law_instance.fn O hd fun c ca Oc hc => ?_
  refine letQ ?_
  intro Qf
  refine ex_cons (ex_assign_cell ?_)
  walk_at "W"
  rename_i b hb o ho p hp
  have sb : Stp (fun _ => False) σ (upd σ b (.tup [.int 1, .int 1, .int 0])) := Stp.new hb
  have so : Stp (fun _ => False) (upd σ b (.tup [.int 1, .int 1, .int 0])) (upd (upd σ b (.tup [.int 1, .int 1, .int 0])) o (.tup [.str "num", .int mk, .ref b, .bool false, .bool true])) := Stp.new ho
  have sp := Stp.new (S := fun _ => False) (o := .tup []) hp
  have st := (sb.trans so).trans sp
  have hone := upd_new (o := .tup []) hp (upd_self (σ := upd σ b (.tup [.int 1, .int 1, .int 0])) (a := o) (o := .tup [.str "num", .int mk, .ref b, .bool false, .bool true]))
  have hpp := upd_self (σ := upd (upd σ b (.tup [.int 1, .int 1, .int 0])) o (.tup [.str "num", .int mk, .ref b, .bool false, .bool true])) (a := p) (o := .tup [])
  have hle := st.chg _ _ (fun z => z) h
  generalize upd (upd (upd σ b (.tup [.int 1, .int 1, .int 0])) o (.tup [.str "num", .int mk, .ref b, .bool false, .bool true])) p (.tup []) = σ₁ at *
  refine ev_callTy Oc k.tuple_ boot_tuple (evl_cons (ev_comp [(PySem.Str.ofString "one", ca)] [(PySem.Str.ofString "one", .ref o)] Oc (free_one (by walk_at "G")) ?_))
  walk_at "W"
  refine ⟨le, _, rfl, .list hle, fun C mh₀ own₀ => cmp_inv (fun i ys σ' m' => Stp (fun _ => False) σ₁ σ' ∧ IsConns σ' ys (es.take i) ∧ ys.length ≤ i ∧ i ≤ es.length ∧ get "one" m' = some (.ref o)) ⟨Stp.refl _ _, by rw [List.take_zero]; exact .nil, Nat.le_refl _, Nat.zero_le _, rfl⟩ (fun i ys σ' m' hh => ⟨(hh.1.chg _ _ (fun z => z) hle).trans hle.symm, by have := hh.2.2.1; have := hh.2.2.2.1; unfold small; (first | lia | omega)⟩) (fun i x ys σ' m' hx hh => ?_) (fun ys σ' m' hh a ha => ?_)⟩
  · obtain ⟨s1, s2, s3, s3', s4⟩ := hh
    have hi : i < es.length := by
      have := (List.getElem?_eq_some_iff.mp hx).1
      simpa using this
    have hxe : x = oS es[i] := by
      rw [List.getElem?_map, List.getElem?_eq_getElem hi] at hx
      cases hx; rfl
    subst hxe
    refine asgc_name ?_
    refine ev_tuple (evl_cons (evc_local (by walk_at "G") (evl_cons (evc_free (by walk_at "G") (evl_nil ⟨Nat.le_of_ble_eq_true rfl, fun t ht => ?_⟩)))))
    have s5 : Stp (fun _ => False) σ' (upd σ' t (.tup [oS es[i], .ref o])) := Stp.new ht
    refine ⟨s1.trans s5, ?_, by rw [List.length_append]; simp; (first | lia | omega), hi, by walk_at "G"⟩
    rw [List.take_succ_eq_append_getElem hi]
    exact (s2.leq s5.leq).snoc upd_self ((s1.trans s5).leq _ _ rfl hone)
  · obtain ⟨s1, s2, s3, s3', s4⟩ := hh
    rw [List.length_map] at s2 s3
    rw [List.take_length] at s2
    refine evl_nil (t_tuple_list upd_self (by unfold small; (first | lia | omega)) fun q hq => evl_nil ⟨Nat.le_of_ble_eq_true rfl, fun z hz' => ?_⟩)
    have a1 : Stp (fun _ => False) σ' (upd σ' a (.list ys)) := Stp.new ha
    have a2 : Stp (fun _ => False) (upd σ' a (.list ys)) (upd (upd σ' a (.list ys)) q (.tup ys)) := Stp.new hq
    have a3 := Stp.new (S := fun _ => False) (o := .tup [.str "inst", .int mk, .str u, .ref p, oS nn, .none, .ref q]) hz'
    have a4 := (a1.trans a2).trans a3
    refine ⟨(st.trans s1).trans a4, .inst upd_self ((s1.trans a4).leq _ _ rfl hpp) (upd_new hz' upd_self) (s2.leq a4.leq)⟩
/-! the primitives' tables: symbols of a level or an edge -/
noncomputable def codes (s : PySem.Str) : List Int := if s = "0" then [0] else if s = "1" then [1] else if s = "x" then [3] else if s = "b" then [0, 1] else if s = "?" then [0, 1, 3] else []
theorem level_codes_spec (k : Kit K) (O : F.Ok K) (hd : 1 ≤ F.C.d) {s : PySem.Str} : CallF prog w F σ m k.level_codes.f [.str s] fun r σ' => Stp (fun _ => False) σ σ' ∧ ∃ a, r = .ref a ∧ σ' a = some (.tup ((codes s).map .int)) := by
  refine callK k.level_codes.fn O hd fun c Oc hc _ => ?_
  refine letQ ?_
  intro Qf
  have no : ∀ {x y : PySem.Str}, (x == y) = false → ¬ x = y := fun h e => by simp [e] at h
  have yes : ∀ {x y : PySem.Str}, (x == y) = true → x = y := fun h => by simpa using h
  refine ex_cons (ex_if (ts_cmp (ev_local rfl (ev_str (cmp_eq_str ⟨fun h => ?_, fun h1 => ex_nil ?_⟩)))))
  · have := yes h; subst this
    walk_at "W"
    rename σ _ = none => ht
    exact ⟨Stp.new ht, _, rfl, upd_self⟩
  refine ex_cons (ex_if (ts_cmp (ev_local rfl (ev_str (cmp_eq_str ⟨fun h => ?_, fun h2 => ex_nil ?_⟩)))))
  · have := yes h; subst this
    walk_at "W"
    rename σ _ = none => ht
    exact ⟨Stp.new ht, _, rfl, upd_self⟩
  refine ex_cons (ex_if (ts_cmp (ev_local rfl (ev_str (cmp_eq_str ⟨fun h => ?_, fun h3 => ex_nil ?_⟩)))))
  · have := yes h; subst this
    walk_at "W"
    rename σ _ = none => ht
    exact ⟨Stp.new ht, _, rfl, upd_self⟩
  refine ex_cons (ex_if (ts_cmp (ev_local rfl (ev_str (cmp_eq_str ⟨fun h => ?_, fun h4 => ex_nil ?_⟩)))))
  · have := yes h; subst this
    walk_at "W"
    rename σ _ = none => ht
    exact ⟨Stp.new ht, _, rfl, upd_self⟩
  refine ex_cons (ex_if (ts_cmp (ev_local rfl (ev_str (cmp_eq_str ⟨fun h => ?_, fun h5 => ex_nil ?_⟩)))))
  · have := yes h; subst this
    walk_at "W"
    rename σ _ = none => ht
    exact ⟨Stp.new ht, _, rfl, upd_self⟩
  walk_at "W"
  rename σ _ = none => ht
  refine ⟨Stp.new ht, _, rfl, ?_⟩
  have : codes s = [] := by unfold codes; rw [if_neg (no h1), if_neg (no h2), if_neg (no h3), if_neg (no h4), if_neg (no h5)]
  rw [this]
  exact upd_self
noncomputable def edges : List PySem.Str := ["r", "f", "p", "n", "*"]
theorem is_edge_spec (k : Kit K) (O : F.Ok K) (hd : 1 ≤ F.C.d) {s : PySem.Str} {c0 : Nat} (h0 : s.cps[0]? = some c0) : CallF prog w F σ m k.is_edge.f [.str s] fun r σ' => Stp (fun _ => False) σ σ' ∧ r = .bool (decide (s ∈ edges)) := by
  refine callK k.is_edge.fn O hd fun c Oc hc _ => ?_
  refine letQ ?_
  intro Qf
  have hne : ((⟨#[c0]⟩ : PySem.Str) == PySem.Str.ofString "edge") = false := by
    refine beq_eq_false_iff_ne.mpr fun e => ?_
    have := congrArg (fun x : PySem.Str => x.cps.size) e
    have h4 : (PySem.Str.ofString "edge").cps.size = 4 := by decide
    simp only [h4] at this
    simp at this
  refine ex_cons (ex_ret (ev_or (ev_cmp (ev_sub (ev_local rfl (ev_int <| subq_str (by decide) (by decide) h0 (ev_str (cmp_eq_str ?_))))))))
  refine ⟨_, rfl, fun h => ?_, fun _ => ?_⟩
  · rw [hne] at h; cases h
  · refine ev_cmp (ev_local rfl (ev_tuple ?_))
    walk_at "W"
    rename σ _ = none => ht
    exact ⟨Stp.new ht, congrArg AV.bool (anyEq_str s edges)⟩
theorem anyEq_int (x : Int) : ∀ l : List Int, anyEq (l.map .int) (.int x) = decide (x ∈ l)
  | [] => rfl
  | y :: l => by
    have ih := anyEq_int x l
    unfold anyEq at ih ⊢
    rw [List.map_cons, List.any_cons, ih]
    by_cases h : y = x
    · subst h; simp [eqA]
    · simp [eqA, h, Ne.symm h]
noncomputable def shares (a b : List Int) : Bool := a.any fun x => decide (x ∈ b)
theorem share_spec (k : Kit K) (O : F.Ok K) (hd : 1 ≤ F.C.d) {p q : Addr} {xs ys : List Int} (hp : σ p = some (.tup (xs.map .int))) (hq : σ q = some (.tup (ys.map .int))) : CallF prog w F σ m k.share.f [.ref p, .ref q] fun r σ' => σ' = σ ∧ r = .bool (shares xs ys) := by
  refine callK k.share.fn O hd fun c Oc hc _ => ?_
  refine letQ ?_
  intro Qf
  refine ex_cons (ex_for Oc ?_)
  walk_at "W"
  refine ⟨p, _, rfl, .tup hp, for_inv (fun i σ' m' => σ' = σ ∧ get "right" m' = some (.ref q) ∧ shares (xs.drop i) ys = shares xs ys) ⟨rfl, rfl, rfl⟩ (fun i σ' m' hh => by rw [hh.1]) (fun i x σ' m' hx hh => ?_) (fun σ' m' hh => ?_)⟩
  · intro Qs
    obtain ⟨rfl, m1, e⟩ := hh
    have hi : i < xs.length := by
      have := (List.getElem?_eq_some_iff.mp hx).1
      simpa using this
    have hxe : x = .int xs[i] := by
      rw [List.getElem?_map, List.getElem?_eq_getElem hi] at hx
      cases hx; rfl
    subst hxe
    have hs : shares (xs.drop i) ys = (decide (xs[i] ∈ ys) || shares (xs.drop (i + 1)) ys) := by
      rw [List.drop_eq_getElem_cons hi]; rfl
    refine asg_name (ex_cons (ex_if (ts_cmp (ev_local (by walk_at "G") (ev_local (by walk_at "G") (cmp_in_tup hq ?_ ?_))))))
    · intro y hy
      obtain ⟨s, _, rfl⟩ := List.mem_map.mp hy
      rfl
    · rw [anyEq_int]
      refine ⟨fun h => ?_, fun h => ?_⟩
      · walk_at "W"
        refine ⟨rfl, ?_⟩
        rw [← e, hs, h]; rfl
      · walk_at "W"
        refine ⟨rfl, by walk_at "G", ?_⟩
        rw [← e, hs, h]; rfl
  · obtain ⟨rfl, m1, e⟩ := hh
    rw [List.length_map, List.drop_length] at e
    walk_at "W"
    exact ⟨rfl, by rw [← e]; rfl⟩
/-- a row of a primitive's table: its symbols and its output; the state is None -/
structure URow where
  ins : List PySem.Str
  out : PySem.Str
noncomputable def URow.Ok (r : URow) : Prop := r.ins.length ≤ 100 ∧ ∀ s ∈ r.ins, ∃ c0, s.cps[0]? = some c0
noncomputable def IsURow (σ : Store) (v : AV) (r : URow) : Prop := ∃ a p, v = .ref a ∧ σ a = some (.tup [.ref p, .none, .str r.out]) ∧ σ p = some (.tup (r.ins.map .str))
theorem IsURow.leq {σ' : Store} (hs : Leq σ σ') {v : AV} {r : URow} (h : IsURow σ v r) : IsURow σ' v r := by
  obtain ⟨a, p, e, h1, h2⟩ := h
  exact ⟨a, p, e, hs _ _ rfl h1, hs _ _ rfl h2⟩
noncomputable def edge (s : PySem.Str) : Bool := decide (s ∈ edges)
noncomputable def edgesOf (ss : List PySem.Str) : Nat := (ss.filter edge).length
theorem rng_get {n : Nat} {i : Nat} {x : AV} (h : ((List.range ((n : Int)).toNat).map fun (i : Nat) => AV.int (i : Int))[i]? = some x) : i < n ∧ x = .int (i : Int) := by
  have e : ((n : Int)).toNat = n := by simp
  rw [e] at h
  by_cases hi : i < n
  · rw [List.getElem?_map, List.getElem?_range hi] at h
    cases h
    exact ⟨hi, rfl⟩
  · rw [List.getElem?_eq_none (by simp; (first | lia | omega))] at h
    cases h
theorem edge_place_spec (k : Kit K) (O : F.Ok K) (hd : 2 ≤ F.C.d) {a p : Addr} {ss : List PySem.Str} {o : PySem.Str} (ha : σ a = some (.tup [.ref p, .none, .str o])) (hp : σ p = some (.tup (ss.map .str))) (hz : ss.length ≤ 100) (ok : ∀ s ∈ ss, (∃ c0, s.cps[0]? = some c0) ∧ edge s = false) :
    CallF prog w F σ m k.edge_place.f [.ref a] fun r σ' => Stp (fun _ => False) σ σ' ∧ r = .int (-1) := by
  refine callK k.edge_place.fn O (Nat.le_trans (Nat.le_of_ble_eq_true rfl) hd) fun c Oc hc _ => ?_
  refine letQ ?_
  intro Qf
  refine ex_cons (ex_for Oc ?_)
  refine ev_callTy Oc k.range_ boot_range ?_
  walk_at "W"
  refine ev_callB Oc k.len_ boot_len ?_
  walk_at "W"
  refine b_len_tup hp (by rw [List.length_map]; exact Nat.le_trans hz (Nat.le_of_ble_eq_true rfl)) ?_
  walk_at "W"
  refine t_range fun q hq => ?_
  have st0 : Stp (fun _ => False) σ (upd σ q (.rng 0 ((ss.map AV.str).length : Int))) := Stp.new hq
  refine ⟨q, _, rfl, .rng upd_self (by (first | lia | omega)) (by simp; (first | lia | omega)), for_inv (fun i σ' m' => Stp (fun _ => False) (upd σ q (.rng 0 ((ss.map AV.str).length : Int))) σ' ∧ get "row" m' = some (.ref a)) ⟨Stp.refl _ _, by walk_at "G"⟩ (fun i σ' m' hh => by rw [hh.1.leq _ _ rfl upd_self, upd_self]) (fun i x σ' m' hx hh => ?_) (fun σ' m' hh => ?_)⟩
  · intro Qs
    obtain ⟨st, m1⟩ := hh
    obtain ⟨hi, rfl⟩ := rng_get hx
    rw [List.length_map] at hi
    have ha' := (st0.trans st).leq _ _ rfl ha
    have hp' := (st0.trans st).leq _ _ rfl hp
    obtain ⟨⟨c0, h0⟩, hne⟩ := ok ss[i] (List.getElem_mem hi)
    refine asg_name (ex_cons (ex_if (ts_value (ev_callG k.is_edge Oc ?_))))
    walk_at "W"
    refine subq_tup hp' (Int.natCast_nonneg _) (by (first | lia | omega)) (by rw [Int.toNat_natCast, List.getElem?_map, List.getElem?_eq_getElem hi]; rfl) ?_
    walk_at "W"
    refine (is_edge_spec k Oc (dp hc hd (Nat.le_of_ble_eq_true rfl)) h0).mono fun r σ₂ e => ?_
    obtain ⟨s2, rfl⟩ := e
    refine ⟨_, rfl, fun h => ?_, fun h => ?_⟩
    · unfold edge at hne; rw [hne] at h; cases h
    · walk_at "W"
      exact ⟨st.trans s2, by walk_at "G"⟩
  · obtain ⟨st, m1⟩ := hh
    refine ex_cons (ex_ret (ev_neg (ev_int ⟨_, rfl, st0.trans st, rfl⟩)))
theorem edge_count_spec (k : Kit K) (O : F.Ok K) (hd : 2 ≤ F.C.d) {a p : Addr} {ss : List PySem.Str} {o : PySem.Str} (ha : σ a = some (.tup [.ref p, .none, .str o])) (hp : σ p = some (.tup (ss.map .str))) (ok : ∀ s ∈ ss, ∃ c0, s.cps[0]? = some c0) :
    CallF prog w F σ m k.edge_count.f [.ref a] fun r σ' => Stp (fun _ => False) σ σ' ∧ r = .int (edgesOf ss) := by
  refine callK k.edge_count.fn O (Nat.le_trans (Nat.le_of_ble_eq_true rfl) hd) fun c Oc hc _ => ?_
  refine letQ ?_
  intro Qf
  refine ex_cons ?_
  walk_at "W"
  refine ex_for Oc ?_
  walk_at "W"
  refine ⟨p, _, rfl, .tup hp, for_inv (fun i σ' m' => Stp (fun _ => False) σ σ' ∧ get "row" m' = some (.ref a) ∧ get "count" m' = some (.int (edgesOf (ss.take i) : Int))) ⟨Stp.refl _ _, by walk_at "G", by walk_at "G"⟩ (fun i σ' m' hh => by rw [hh.1.leq _ _ rfl hp, hp]) (fun i x σ' m' hx hh => ?_) (fun σ' m' hh => ?_)⟩
  · intro Qs
    obtain ⟨st, m1, m2⟩ := hh
    have hi : i < ss.length := by
      have := (List.getElem?_eq_some_iff.mp hx).1
      simpa using this
    have hxe : x = .str ss[i] := by
      rw [List.getElem?_map, List.getElem?_eq_getElem hi] at hx
      cases hx; rfl
    subst hxe
    obtain ⟨c0, h0⟩ := ok ss[i] (List.getElem_mem hi)
    have htk : edgesOf (ss.take (i + 1)) = edgesOf (ss.take i) + (if edge ss[i] = true then 1 else 0) := by
      unfold edgesOf
      rw [List.take_succ, List.getElem?_eq_getElem hi, Option.toList_some, List.filter_append, List.length_append]
      congr 1
      rw [List.filter_cons]
      split <;> rfl
    refine asg_name (ex_cons (ex_if (ts_value (ev_callG k.is_edge Oc ?_))))
    walk_at "W"
    refine (is_edge_spec k Oc (dp hc hd (Nat.le_of_ble_eq_true rfl)) h0).mono fun r σ₂ e => ?_
    obtain ⟨s2, rfl⟩ := e
    refine ⟨_, rfl, fun h => ?_, fun h => ?_⟩
    · refine ex_cons (ex_aug (by walk_at "G") ?_)
      walk_at "W"
      refine ⟨_, rfl, ?_⟩
      walk_at "W"
      refine ⟨st.trans s2, by walk_at "G", ?_⟩
      rw [htk, if_pos (by unfold edge; exact h)]
      rw [get_put_same]; simp
    · walk_at "W"
      refine ⟨st.trans s2, by walk_at "G", ?_⟩
      rw [htk, if_neg (by unfold edge; rw [h]; simp), Nat.add_zero]
      walk_at "G"
  · obtain ⟨st, m1, m2⟩ := hh
    rw [List.length_map, List.take_length] at m2
    walk_at "W"
    exact ⟨st, rfl⟩
theorem edge_pairs_r (k : Kit K) (O : F.Ok K) (hd : 1 ≤ F.C.d) : CallF prog w F σ m k.edge_pairs.f [.str "r"] fun r σ' => Stp (fun _ => False) σ σ' ∧ ∃ a v, r = .ref a ∧ σ' a = some (.tup [v]) := by
  refine callK k.edge_pairs.fn O hd fun c Oc hc _ => ?_
  refine letQ ?_
  intro Qf
  refine ex_cons (ex_if (ts_cmp (ev_local rfl (ev_str (cmp_eq_str ⟨fun h => ?_, fun h => absurd h (by decide)⟩)))))
  walk_at "W"
  rename_i t1 h1 t2 h2
  exact ⟨(Stp.new h1).trans (Stp.new h2), _, _, rfl, upd_self⟩
structure Prim where
  name : PySem.Str
  mark : Int
  out : PySem.Str
  ins : List PySem.Str
  rows : List URow
noncomputable def IsURows (σ : Store) : List AV → List URow → Prop
  | [], [] => True
  | v :: vs, r :: rs => IsURow σ v r ∧ IsURows σ vs rs
  | _, _ => False
theorem IsURows.leq {σ' : Store} (hs : Leq σ σ') : ∀ {xs : List AV} {rs : List URow}, IsURows σ xs rs → IsURows σ' xs rs
  | [], [], _ => trivial
  | _ :: _, _ :: _, h => ⟨h.1.leq hs, h.2.leq hs⟩
theorem IsURows.length : ∀ {xs : List AV} {rs : List URow}, IsURows σ xs rs → xs.length = rs.length
  | [], [], _ => rfl
  | _ :: _, _ :: _, h => by rw [List.length_cons, List.length_cons, h.2.length]
theorem IsURows.get : ∀ {xs : List AV} {rs : List URow}, IsURows σ xs rs → ∀ {i : Nat} {r : URow}, rs[i]? = some r → ∃ v, xs[i]? = some v ∧ IsURow σ v r
  | [], [], _, _, _, e => by cases e
  | _ :: _, _ :: _, h, 0, r, e => by cases e; exact ⟨_, rfl, h.1⟩
  | _ :: _, _ :: _, h, i + 1, r, e => by
    rw [List.getElem?_cons_succ] at e ⊢
    exact h.2.get e
noncomputable def pDict (X : Prim) (pi pr : Addr) : Loc := [("name", .str X.name), ("at", .int X.mark), ("output", .str X.out), ("inputs", .ref pi), ("sequential", .bool false), ("init", .int 3), ("rows", .ref pr)]
structure IsPrim (k : Kit K) (σ : Store) (P : Addr) (X : Prim) (pi pr : Addr) : Prop where
  obj : ∃ Pd, σ P = some (.inst k.Primitive Pd) ∧ σ Pd = some (.idict (pDict X pi pr))
  ins : σ pi = some (.tup (X.ins.map .str))
  rows : ∃ xs, σ pr = some (.tup xs) ∧ IsURows σ xs X.rows
theorem IsPrim.leq {k : Kit K} {σ' : Store} {P : Addr} {X : Prim} {pi pr : Addr} (hs : Leq σ σ') (h : IsPrim k σ P X pi pr) : IsPrim k σ' P X pi pr := by
  obtain ⟨⟨Pd, h1, h2⟩, h3, xs, h4, h5⟩ := h
  exact ⟨⟨Pd, hs _ _ rfl h1, hs _ _ rfl h2⟩, hs _ _ rfl h3, xs, hs _ _ rfl h4, h5.leq hs⟩
theorem ev_pattr (k : Kit K) (O : F.Ok K) {P pi pr : Addr} {X : Prim} {value : PySem.Expr} {name : PySem.Str} {pos : Pos} {v : AV} {Q : AV → Store → Prop} (hx : name ∈ ([PySem.Str.ofString "name", PySem.Str.ofString "at", PySem.Str.ofString "output", PySem.Str.ofString "inputs", PySem.Str.ofString "sequential", PySem.Str.ofString "init", PySem.Str.ofString "rows"] : List PySem.Str)) (hv : get name (pDict X pi pr) = some v) (hb : notBlt v = true)
    (h : Ev prog w F σ m value fun ov σ₁ => ov = .ref P ∧ IsPrim k σ₁ P X pi pr ∧ Q v σ₁)
    (he : eval (value.Attribute name pos) F.env = (do
          let o ← eval value F.env
          standAt pos.atName
          let r ← holding [o] (getAttr o name true)
          letTemporaryGo value o r
          pure r) := by rfl) : Ev prog w F σ m (.Attribute value name pos) Q := by
  refine ev_attr O (h.mono fun ov σ₁ q => ?_) he
  obtain ⟨rfl, ⟨⟨Pd, h1, h2⟩, _, _⟩, q⟩ := q
  exact ⟨P, k.Primitive, Pd, _, v, rfl, h1, h2, hv, hb, (k.primS name hx).2, q⟩
noncomputable def kinds1 (n : Nat) (r : URow) : List PySem.Str := if r.ins.length = n then [] else ["row_size"]
noncomputable def kinds2 (r : URow) : List PySem.Str := if 0 < edgesOf r.ins then ["edge_in_combinational"] else []
noncomputable def kinds3 (r : URow) : List PySem.Str := if r.out = "-" then ["dash_in_combinational"] else []
noncomputable def kindsOf (n : Nat) (r : URow) : List PySem.Str := kinds1 n r ++ kinds2 r ++ kinds3 r
structure URow.Fit (r : URow) : Prop where
  len : r.ins.length ≤ 100
  chr : ∀ s ∈ r.ins, ∃ c0, s.cps[0]? = some c0
  edg : ∀ s ∈ r.ins, edge s = true → s = "r"
theorem row_faults_spec (k : Kit K) (O : F.Ok K) (hd : 3 ≤ F.C.d) {P pi pr : Addr} {X : Prim} {v : AV} {r : URow} (hP : IsPrim k σ P X pi pr) (hn : X.ins.length ≤ 100) (hr : IsURow σ v r) (fit : r.Fit) :
    CallF prog w F σ m k.row_faults.f [.ref P, v] fun y σ' => Stp (fun _ => False) σ σ' ∧ ∃ l, y = .ref l ∧ σ l = none ∧ σ' l = some (.list ((kindsOf X.ins.length r).map .str)) := by
  obtain ⟨a, p, rfl, ha, hp⟩ := id hr
  refine callK k.row_faults.fn O (Nat.le_trans (Nat.le_of_ble_eq_true rfl) hd) fun c Oc hc _ => ?_
  refine letQ ?_
  intro Qf
  refine ex_cons ?_
  walk_at "W"
  rename_i l hl
  -- the state between the statements
  let I : List PySem.Str → Store → Loc → Prop := fun ks σ₁ m₁ => Stp (fun _ => False) σ σ₁ ∧ σ₁ l = some (.list (ks.map .str)) ∧ get "kinds" m₁ = some (.ref l) ∧ get "p" m₁ = some (.ref P) ∧ get "row" m₁ = some (.ref a)
  have app : ∀ {ks : List PySem.Str} {σ₁ : Store} {m₁ : Loc} (x : PySem.Str), I ks σ₁ m₁ → I (ks ++ [x]) (upd σ₁ l (.list (ks.map .str ++ [.str x]))) m₁ := by
    rintro ks σ₁ m₁ x ⟨st, hL, m1, m2, m3⟩
    exact ⟨st.atNew hl, by rw [upd_self, strs_snoc], m1, m2, m3⟩
  have end5 : ∀ (ks : List PySem.Str) (σ₁ : Store) (m₁ : Loc), I ks σ₁ m₁ → ks = kindsOf X.ins.length r → Ex prog w (c.fm (scOf (nth 37)) none) σ₁ m₁ ((bodyOf (nth 37)).drop 5) fun fl σ' _ => Stp (fun _ => False) σ σ' ∧ ∃ l, retOf fl = .ref l ∧ σ l = none ∧ σ' l = some (.list ((kindsOf X.ins.length r).map .str)) := by
    rintro ks σ₁ m₁ ⟨st, hL, m1, m2, m3⟩ rfl
    refine letQ ?_
    intro Qe
    refine ex_cons (ex_ret (ev_local m1 ⟨st, l, rfl, hl, hL⟩))
  have end4 : ∀ (ks : List PySem.Str) (σ₁ : Store) (m₁ : Loc), I ks σ₁ m₁ → ks = kindsOf X.ins.length r → Ex prog w (c.fm (scOf (nth 37)) none) σ₁ m₁ ((bodyOf (nth 37)).drop 4) fun fl σ' _ => Stp (fun _ => False) σ σ' ∧ ∃ l, retOf fl = .ref l ∧ σ l = none ∧ σ' l = some (.list ((kindsOf X.ins.length r).map .str)) := by
    intro ks σ₁ m₁ hI he
    refine letQ ?_
    intro Qe
    have ⟨st, hL, m1, m2, m3⟩ := hI
    refine ex_cons (ex_for Oc ?_)
    walk_at "W"
    refine subq_tup (st.leq _ _ rfl ha) (by decide) (by decide) (by rfl) ?_
    refine ⟨p, _, rfl, .tup (st.leq _ _ rfl hp), for_inv (fun i σ' m' => I ks σ' m') hI (fun i σ' m' hh => by rw [hh.1.leq _ _ rfl hp, st.leq _ _ rfl hp]) (fun i x σ' m' hx hh => ?_) (fun σ' m' hh => end5 ks σ' m' hh he)⟩
    intro Qs
    have hi : i < r.ins.length := by
      have := (List.getElem?_eq_some_iff.mp hx).1
      simpa using this
    have hxe : x = .str r.ins[i] := by
      rw [List.getElem?_map, List.getElem?_eq_getElem hi] at hx
      cases hx; rfl
    subst hxe
    obtain ⟨c0, h0⟩ := fit.chr r.ins[i] (List.getElem_mem hi)
    obtain ⟨st', hL', n1, n2, n3⟩ := hh
    refine asg_name (ex_cons (ex_if (ts_and (ts_value (ev_callG k.is_edge Oc ?_)))))
    walk_at "W"
    refine (is_edge_spec k Oc (dp hc hd (Nat.le_of_ble_eq_true rfl)) h0).mono fun y σ₂ e => ?_
    obtain ⟨s2, rfl⟩ := e
    have hl2 : σ₂ l = some (.list (ks.map .str)) := s2.chg _ _ (fun z => z) hL'
    refine ⟨_, rfl, fun h => ?_, fun h => ?_⟩
    · have hr := fit.edg _ (List.getElem_mem hi) (by unfold edge; exact h)
      rw [hr]
      refine ts_cmp (ev_callB Oc k.len_ boot_len ?_)
      walk_at "W"
      refine ev_callG k.edge_pairs Oc ?_
      walk_at "W"
      refine (edge_pairs_r k Oc (dp hc hd (Nat.le_of_ble_eq_true rfl))).mono fun y σ₃ e => ?_
      obtain ⟨s3, b, v, rfl, hb⟩ := e
      walk_at "W"
      refine b_len_tup hb (Nat.le_of_ble_eq_true rfl) ?_
      walk_at "W"
      exact ⟨(st'.trans s2).trans s3, s3.chg _ _ (fun z => z) hl2, by walk_at "G", by walk_at "G", by walk_at "G"⟩
    · walk_at "W"
      exact ⟨st'.trans s2, hl2, by walk_at "G", by walk_at "G", by walk_at "G"⟩
  have end3 : ∀ (ks : List PySem.Str) (σ₁ : Store) (m₁ : Loc), I ks σ₁ m₁ → get "edges" m₁ = some (.int (edgesOf r.ins)) → ks = kinds1 X.ins.length r → Ex prog w (c.fm (scOf (nth 37)) none) σ₁ m₁ ((bodyOf (nth 37)).drop 3) fun fl σ' _ => Stp (fun _ => False) σ σ' ∧ ∃ l, retOf fl = .ref l ∧ σ l = none ∧ σ' l = some (.list ((kindsOf X.ins.length r).map .str)) := by
    intro ks σ₁ m₁ hI hE he
    refine letQ ?_
    intro Qe
    have ⟨st, hL, m1, m2, m3⟩ := hI
    have hk1 : (kinds1 X.ins.length r).length ≤ 1 := by unfold kinds1; split <;> simp
    have hk2 : (kinds2 r).length ≤ 1 := by unfold kinds2; split <;> simp
    refine ex_cons (ex_if (ts_value (ev_pattr (pi := pi) (pr := pr) (X := X) (P := P) k Oc (by decide) rfl rfl (ev_local m2 ⟨rfl, hP.leq st.leq, ?_⟩))))
    refine ⟨_, rfl, fun h => absurd h (by decide), fun _ => ?_⟩
    have fin3 : ∀ (ks' : List PySem.Str) (σ₂ : Store), I ks' σ₂ m₁ → ks' = kinds1 X.ins.length r ++ kinds2 r → Ex1 prog w (c.fm (scOf (nth 37)) none) σ₂ m₁ (match ((bodyOf (nth 37)).drop 3).head? with | some (.If _ _ (_ :: s :: _) _) => s | _ => .Pass default) fun fl σ' m' => fl = .next ∧ I (kindsOf X.ins.length r) σ' m' := by
      rintro ks' σ₂ ⟨st, hL, m1, m2, m3⟩ rfl
      refine ex_if ?_
      walk_at "W"
      refine subq_tup (st.leq _ _ rfl ha) (by decide) (by decide) (by rfl) ?_
      walk_at "W"
      refine ⟨fun h => ?_, fun h => ?_⟩
      · have he : r.out = "-" := by simpa using h
        walk_at "W"
        refine ev_meth1 (ev_local (by walk_at "G") ⟨"list.append", m_append hL, ?_⟩)
        walk_at "W"
        refine b_append hL ?_ ?_
        · rw [List.length_map, List.length_append]; exact Nat.le_trans (by (first | lia | omega) : _ ≤ 2) (Nat.le_of_ble_eq_true rfl)
        walk_at "W"
        have := app "dash_in_combinational" ⟨st, hL, m1, m2, m3⟩
        refine ⟨rfl, ?_⟩
        unfold kindsOf kinds3
        rw [if_pos he]
        exact this
      · have he : ¬ r.out = "-" := by simpa using h
        walk_at "W"
        refine ⟨rfl, ?_⟩
        unfold kindsOf kinds3
        rw [if_neg he, List.append_nil]
        exact ⟨st, hL, m1, m2, m3⟩
    refine ex_cons (ex_if (ts_cmp (ev_local (by walk_at "G") (ev_int (cmp_gt_int ⟨fun h => ?_, fun h => ?_⟩)))))
    · have hp0 : 0 < edgesOf r.ins := by simpa using h
      walk_at "W"
      refine ev_meth1 (ev_local (by walk_at "G") ⟨"list.append", m_append hL, ?_⟩)
      walk_at "W"
      refine b_append hL ?_ ?_
      · rw [List.length_map, he]; exact Nat.le_trans hk1 (Nat.le_of_ble_eq_true rfl)
      have hI2 := app "edge_in_combinational" hI
      refine ex_nil (ex_cons (TrS.mono (fin3 _ _ hI2 (by rw [he]; unfold kinds2; rw [if_pos hp0])) ?_))
      rintro fl σ₃ m₃ ⟨rfl, hI3⟩
      exact ex_nil (end4 _ _ _ hI3 rfl)
    · have hp0 : ¬ 0 < edgesOf r.ins := by simpa using h
      refine ex_nil (ex_cons (TrS.mono (fin3 ks _ hI (by rw [he]; unfold kinds2; rw [if_neg hp0, List.append_nil])) ?_))
      rintro fl σ₃ m₃ ⟨rfl, hI3⟩
      exact ex_nil (end4 _ _ _ hI3 rfl)
  have hP0 := hP.leq (Stp.new (S := fun _ => False) (o := .list []) hl).leq
  have hin := hP0.ins
  refine ev_callB Oc k.len_ boot_len ?_
  walk_at "W"
  refine b_len_tup (upd_new hl hp) (by rw [List.length_map]; exact Nat.le_trans fit.len (Nat.le_of_ble_eq_true rfl)) ?_
  refine ev_callB Oc k.len_ boot_len (evl_cons (ev_pattr (pi := pi) (pr := pr) (X := X) (P := P) k Oc (by decide) rfl rfl (ev_local (by walk_at "G") ⟨rfl, hP0, ?_⟩)))
  walk_at "W"
  refine b_len_tup hin (by rw [List.length_map]; exact Nat.le_trans hn (Nat.le_of_ble_eq_true rfl)) ?_
  have hI0 : I [] (upd σ l (.list [])) _ := ⟨Stp.new hl, upd_self, get_put_same, get_put_ne (by decide) (show get "p" ([PySem.Str.ofString "p", PySem.Str.ofString "row"].zip [AV.ref P, .ref a]) = _ from rfl), get_put_ne (by decide) rfl⟩
  have end2 : ∀ (ks : List PySem.Str) (σ₁ : Store) (m₁ : Loc), I ks σ₁ m₁ → ks = kinds1 X.ins.length r → Ex prog w (c.fm (scOf (nth 37)) none) σ₁ m₁ ((bodyOf (nth 37)).drop 2) fun fl σ' _ => Stp (fun _ => False) σ σ' ∧ ∃ l, retOf fl = .ref l ∧ σ l = none ∧ σ' l = some (.list ((kindsOf X.ins.length r).map .str)) := by
    intro ks σ₁ m₁ hI he
    refine letQ ?_
    intro Qe
    have ⟨st, hL, m1, m2, m3⟩ := hI
    refine ex_cons (ex_assign (ev_callG k.edge_count Oc ?_))
    walk_at "W"
    refine (edge_count_spec k Oc (dp hc hd (Nat.le_of_ble_eq_true rfl)) (st.leq _ _ rfl ha) (st.leq _ _ rfl hp) fit.chr).mono fun y σ₂ e => ?_
    obtain ⟨s2, rfl⟩ := e
    exact end3 ks σ₂ _ ⟨st.trans s2, s2.chg _ _ (fun z => z) hL, by walk_at "G", by walk_at "G", by walk_at "G"⟩ (by walk_at "G") he
  refine cmp_ne_int ?_
  rw [List.length_map, List.length_map]
  refine ⟨fun h => ?_, fun h => ?_⟩
  · have hne : ¬ r.ins.length = X.ins.length := by intro e; rw [e] at h; simp at h
    refine ex_cons ?_
    walk_at "W"
    refine ev_meth1 (ev_local (by walk_at "G") ⟨"list.append", m_append upd_self, ?_⟩)
    walk_at "W"
    refine b_append upd_self (Nat.zero_le _) ?_
    refine ex_nil ?_
    exact end2 _ _ _ (app "row_size" hI0) (by unfold kinds1; rw [if_neg hne]; rfl)
  · have h2 : (r.ins.length : Int) = X.ins.length := by simpa using h
    have he : r.ins.length = X.ins.length := by (first | lia | omega)
    refine ex_nil ?_
    exact end2 _ _ _ hI0 (by unfold kinds1; rw [if_pos he])
noncomputable def confs : List PySem.Str → List PySem.Str → Bool
  | a :: as, b :: bs => shares (codes a) (codes b) && confs as bs
  | _, _ => true
noncomputable def conflict (u v : URow) : Bool := confs u.ins v.ins && (u.out != v.out)
structure URow.Plain (r : URow) : Prop where
  len : r.ins.length ≤ 100
  ok : ∀ s ∈ r.ins, (∃ c0, s.cps[0]? = some c0) ∧ edge s = false
theorem rows_conflict_spec (k : Kit K) (O : F.Ok K) (hd : 3 ≤ F.C.d) {x y : AV} {u v : URow} (hu : IsURow σ x u) (hv : IsURow σ y v) (pu : u.Plain) (pv : v.Plain) (hlen : u.ins.length = v.ins.length) :
    CallF prog w F σ m k.rows_conflict.f [x, y] fun r σ' => Stp (fun _ => False) σ σ' ∧ r = .bool (conflict u v) := by
  obtain ⟨a, p, rfl, ha, hp⟩ := id hu
  obtain ⟨b, q, rfl, hb, hq⟩ := id hv
  refine callK k.rows_conflict.fn O (Nat.le_trans (Nat.le_of_ble_eq_true rfl) hd) fun c Oc hc _ => ?_
  refine letQ ?_
  intro Qf
  refine ex_cons (ex_if (ts_cmp (ev_callG k.edge_place Oc ?_)))
  walk_at "W"
  refine (edge_place_spec k Oc (dp hc hd (Nat.le_of_ble_eq_true rfl)) ha hp pu.len pu.ok).mono fun r σ₁ e => ?_
  obtain ⟨s1, rfl⟩ := e
  refine ev_callG k.edge_place Oc ?_
  walk_at "W"
  refine (edge_place_spec k Oc (dp hc hd (Nat.le_of_ble_eq_true rfl)) (s1.leq _ _ rfl hb) (s1.leq _ _ rfl hq) pv.len pv.ok).mono fun r σ₂ e => ?_
  obtain ⟨s2, rfl⟩ := e
  have st := s1.trans s2
  have ha2 := st.leq _ _ rfl ha
  have hp2 := st.leq _ _ rfl hp
  refine cmp_ne_int ⟨fun h => absurd h (by decide), fun _ => ex_nil (ex_cons (ex_for Oc ?_))⟩
  refine ev_callTy Oc k.range_ boot_range ?_
  walk_at "W"
  refine ev_callB Oc k.len_ boot_len ?_
  walk_at "W"
  refine b_len_tup hp2 (by rw [List.length_map]; exact Nat.le_trans pu.len (Nat.le_of_ble_eq_true rfl)) ?_
  walk_at "W"
  refine t_range fun t ht => ?_
  have st0 : Stp (fun _ => False) σ₂ (upd σ₂ t (.rng 0 ((u.ins.map AV.str).length : Int))) := Stp.new ht
  refine ⟨t, _, rfl, .rng upd_self (by (first | lia | omega)) (by have := pu.len; simp; (first | lia | omega)), for_inv (fun i σ' m' => Stp (fun _ => False) (upd σ₂ t (.rng 0 ((u.ins.map AV.str).length : Int))) σ' ∧ get "u" m' = some (.ref a) ∧ get "v" m' = some (.ref b) ∧ confs (u.ins.drop i) (v.ins.drop i) = confs u.ins v.ins) ⟨Stp.refl _ _, by walk_at "G", by walk_at "G", rfl⟩ (fun i σ' m' hh => by rw [hh.1.leq _ _ rfl upd_self, upd_self]) (fun i x σ' m' hx hh => ?_) (fun σ' m' hh => ?_)⟩
  · intro Qs
    obtain ⟨s3, m1, m2, e⟩ := hh
    obtain ⟨hi, rfl⟩ := rng_get hx
    rw [List.length_map] at hi
    have hi' : i < v.ins.length := by (first | lia | omega)
    have s4 := (st.trans st0).trans s3
    have ha' := s4.leq _ _ rfl ha
    have hp' := s4.leq _ _ rfl hp
    have hb' := s4.leq _ _ rfl hb
    have hq' := s4.leq _ _ rfl hq
    obtain ⟨⟨c0, h0⟩, hne⟩ := pu.ok u.ins[i] (List.getElem_mem hi)
    have he : confs (u.ins.drop i) (v.ins.drop i) = (shares (codes u.ins[i]) (codes v.ins[i]) && confs (u.ins.drop (i + 1)) (v.ins.drop (i + 1))) := by
      rw [List.drop_eq_getElem_cons hi, List.drop_eq_getElem_cons hi']; rfl
    refine asg_name (ex_cons (ex_if (ts_value (ev_callG k.is_edge Oc ?_))))
    walk_at "W"
    refine subq_tup hp' (Int.natCast_nonneg _) (by have := pu.len; (first | lia | omega)) (by rw [Int.toNat_natCast, List.getElem?_map, List.getElem?_eq_getElem hi]; rfl) ?_
    walk_at "W"
    refine (is_edge_spec k Oc (dp hc hd (Nat.le_of_ble_eq_true rfl)) h0).mono fun r σ₃ e => ?_
    obtain ⟨s5, rfl⟩ := e
    refine ⟨_, rfl, fun h => ?_, fun h => ?_⟩
    · unfold edge at hne; rw [hne] at h; cases h
    · refine ex_cons (ex_if (ts_not (ts_value (ev_callG k.share Oc ?_))))
      refine evl_cons (ev_callG k.level_codes Oc ?_)
      walk_at "W"
      refine subq_tup (s5.leq _ _ rfl ha') (by decide) (by decide) (by rfl) ?_
      walk_at "W"
      refine subq_tup (s5.leq _ _ rfl hp') (Int.natCast_nonneg _) (by have := pu.len; (first | lia | omega)) (by rw [Int.toNat_natCast, List.getElem?_map, List.getElem?_eq_getElem hi]; rfl) ?_
      walk_at "W"
      refine (level_codes_spec k Oc (dp hc hd (Nat.le_of_ble_eq_true rfl))).mono fun r σ₄ e => ?_
      obtain ⟨s6, l1, rfl, hl1⟩ := e
      refine evl_cons (ev_callG k.level_codes Oc ?_)
      walk_at "W"
      refine subq_tup ((s5.trans s6).leq _ _ rfl hb') (by decide) (by decide) (by rfl) ?_
      walk_at "W"
      refine subq_tup ((s5.trans s6).leq _ _ rfl hq') (Int.natCast_nonneg _) (by have := pv.len; (first | lia | omega)) (by rw [Int.toNat_natCast, List.getElem?_map, List.getElem?_eq_getElem hi']; rfl) ?_
      walk_at "W"
      refine (level_codes_spec k Oc (dp hc hd (Nat.le_of_ble_eq_true rfl))).mono fun r σ₅ e => ?_
      obtain ⟨s7, l2, rfl, hl2⟩ := e
      walk_at "W"
      refine (share_spec k Oc (dp hc hd (Nat.le_of_ble_eq_true rfl)) (s7.leq _ _ rfl hl1) hl2).mono fun r σ₆ e => ?_
      obtain ⟨rfl, rfl⟩ := e
      refine ⟨_, rfl, fun h => ?_, fun h => ?_⟩
      · walk_at "W"
        refine ⟨s4.trans ((s5.trans s6).trans s7), ?_⟩
        have h : shares (codes u.ins[i]) (codes v.ins[i]) = false := by simpa using h
        unfold conflict
        rw [← e, he, h]; rfl
      · walk_at "W"
        have h : shares (codes u.ins[i]) (codes v.ins[i]) = true := by simpa using h
        refine ⟨s3.trans ((s5.trans s6).trans s7), by walk_at "G", by walk_at "G", ?_⟩
        rw [← e, he, h]; rfl
  · obtain ⟨s3, m1, m2, e⟩ := hh
    have e2 : confs u.ins v.ins = true := by rw [← e, List.drop_eq_nil_of_le (by simp)]; unfold confs; rfl
    have s4 := (st.trans st0).trans s3
    have ha' := s4.leq _ _ rfl ha
    have hb' := s4.leq _ _ rfl hb
    walk_at "W"
    refine ⟨s4, ?_⟩
    unfold conflict
    rw [e2]; rfl
inductive IsFlts (σ : Store) : List AV → List PySem.Str → Prop
  | nil : IsFlts σ [] []
  | cons {a : Addr} {n : AV} {kd : PySem.Str} {xs ks} : σ a = some (.tup [.str kd, n]) → IsFlts σ xs ks → IsFlts σ (.ref a :: xs) (kd :: ks)
theorem IsFlts.leq {σ' : Store} (hs : Leq σ σ') {xs : List AV} {ks : List PySem.Str} (h : IsFlts σ xs ks) : IsFlts σ' xs ks := by
  induction h with
  | nil => exact .nil
  | cons h1 _ ih => exact .cons (hs _ _ rfl h1) ih
theorem IsFlts.length {xs : List AV} {ks : List PySem.Str} (h : IsFlts σ xs ks) : xs.length = ks.length := by
  induction h with
  | nil => rfl
  | cons _ _ ih => rw [List.length_cons, List.length_cons, ih]
theorem IsFlts.snoc {xs : List AV} {ks : List PySem.Str} {a : Addr} {n : AV} {kd : PySem.Str} (h : IsFlts σ xs ks) (h1 : σ a = some (.tup [.str kd, n])) : IsFlts σ (xs ++ [.ref a]) (ks ++ [kd]) := by
  induction h with
  | nil => exact .cons h1 .nil
  | cons g1 _ ih => exact .cons g1 ih
theorem IsFlts.get {xs : List AV} {ks : List PySem.Str} (h : IsFlts σ xs ks) : ∀ {i x}, xs[i]? = some x → ∃ kd a n, ks.drop i = kd :: ks.drop (i + 1) ∧ x = .ref a ∧ σ a = some (.tup [.str kd, n]) := by
  induction h with
  | nil => intro i x e; simp at e
  | cons h1 _ ih =>
    intro i x e
    cases i with
    | zero => simp at e; subst e; exact ⟨_, _, _, rfl, rfl, h1⟩
    | succ i =>
      obtain ⟨kd, a, n, g1, g2, g3⟩ := ih (by simpa using e)
      exact ⟨kd, a, n, by simpa using g1, g2, g3⟩

noncomputable def confAt (X : Prim) (j i : Nat) : Bool := match X.rows[i]?, X.rows[j]? with
  | some u, some v => conflict u v
  | _, _ => false
noncomputable def oneF (X : Prim) (idx : List Nat) (j : Nat) (r : URow) : List PySem.Str := if kindsOf X.ins.length r = [] then (if idx.any (confAt X j) = true then ["conflict"] else []) else kindsOf X.ins.length r
noncomputable def idxF (X : Prim) (idx : List Nat) (j : Nat) (r : URow) : List Nat := if kindsOf X.ins.length r = [] then idx ++ [j] else idx
noncomputable def rowsF (X : Prim) : List Nat → Nat → List URow → List PySem.Str
  | _, _, [] => []
  | idx, j, r :: rs => oneF X idx j r ++ rowsF X (idxF X idx j r) (j + 1) rs
noncomputable def dup1 (seen : List PySem.Str) (x : PySem.Str) : List PySem.Str := if x ∈ seen then ["duplicate_port"] else []
noncomputable def dupF : List PySem.Str → List PySem.Str → List PySem.Str
  | _, [] => []
  | seen, x :: xs => dup1 seen x ++ dupF (seen ++ [x]) xs
noncomputable def noF (X : Prim) : List PySem.Str := if X.rows.length = 0 then ["no_rows"] else []
noncomputable def primF (X : Prim) : List PySem.Str := dupF [X.out] X.ins ++ noF X ++ rowsF X [] 0 X.rows
theorem kinds_le (n : Nat) (r : URow) : (kindsOf n r).length ≤ 3 := by
  unfold kindsOf kinds1 kinds2 kinds3
  rw [List.length_append, List.length_append]
  have h1 : (if r.ins.length = n then ([] : List PySem.Str) else ["row_size"]).length ≤ 1 := len_if (Nat.zero_le _) (Nat.le_refl _)
  have h2 : (if 0 < edgesOf r.ins then (["edge_in_combinational"] : List PySem.Str) else []).length ≤ 1 := len_if (Nat.le_refl _) (Nat.zero_le _)
  have h3 : (if r.out = "-" then (["dash_in_combinational"] : List PySem.Str) else []).length ≤ 1 := len_if (Nat.le_refl _) (Nat.zero_le _)
  (first | lia | omega)
theorem sound_of {n : Nat} {r : URow} (h : kindsOf n r = []) (fit : r.Fit) : r.Plain ∧ r.ins.length = n := by
  unfold kindsOf at h
  rw [List.append_eq_nil_iff, List.append_eq_nil_iff] at h
  obtain ⟨⟨h1, h2⟩, h3⟩ := h
  have e1 : r.ins.length = n := by
    unfold kinds1 at h1
    by_cases q : r.ins.length = n
    · exact q
    · rw [if_neg q] at h1; cases h1
  have e2 : edgesOf r.ins = 0 := by
    unfold kinds2 at h2
    by_cases q : 0 < edgesOf r.ins
    · rw [if_pos q] at h2; cases h2
    · (first | lia | omega)
  refine ⟨⟨fit.len, fun s hs => ⟨fit.chr s hs, ?_⟩⟩, e1⟩
  cases q : edge s with
  | false => rfl
  | true =>
    have : s ∈ r.ins.filter edge := List.mem_filter.mpr ⟨hs, q⟩
    unfold edgesOf at e2
    rw [List.eq_nil_of_length_eq_zero e2] at this
    cases this
theorem check_primitive_spec (k : Kit K) (O : F.Ok K) (hd : 4 ≤ F.C.d) {P pi pr : Addr} {X : Prim} (hP : IsPrim k σ P X pi pr) (hn : X.ins.length ≤ 10) (hr : X.rows.length ≤ 10) (fit : ∀ r ∈ X.rows, r.Fit) :
    CallF prog w F σ m k.check_primitive.f [.ref P] fun y σ' => Stp (fun _ => False) σ σ' ∧ ∃ l xs, y = .ref l ∧ σ l = none ∧ σ' l = some (.list xs) ∧ IsFlts σ' xs (primF X) := by
  refine callK k.check_primitive.fn O (Nat.le_trans (Nat.le_of_ble_eq_true rfl) hd) fun c Oc hc _ => ?_
  refine letQ ?_
  intro Qf
  have hsm : small = 1000 := rfl
  refine ex_cons ?_
  walk_at "W"
  rename_i l hl
  have hP0 := hP.leq (Stp.new (S := fun _ => False) (o := .list []) hl).leq
  refine ev_pattr (pi := pi) (pr := pr) (X := X) (P := P) k Oc (by decide) rfl rfl (ev_local (by walk_at "G") ⟨rfl, hP0, ?_⟩)
  refine evl_nil ⟨Nat.le_of_ble_eq_true rfl, fun nm hnm => ?_⟩
  have hlnm : l ≠ nm := ne_of upd_self hnm
  have hnm0 : σ nm = none := by rw [← hnm]; exact (upd_old (Ne.symm hlnm) rfl).symm
  let J : List PySem.Str → Store → Loc → Prop := fun ks σ₁ m₁ => Stp (fun _ => False) σ σ₁ ∧ (∃ xs, σ₁ l = some (.list xs) ∧ IsFlts σ₁ xs ks) ∧ get "faults" m₁ = some (.ref l) ∧ get "p" m₁ = some (.ref P)
  have appF : ∀ {ks : List PySem.Str} {σ₁ : Store} {m₁ : Loc} {xs : List AV} {a : Addr} {n : AV} (kd : PySem.Str), Stp (fun _ => False) σ σ₁ → σ₁ l = some (.list xs) → IsFlts σ₁ xs ks → σ₁ a = none → get "faults" m₁ = some (.ref l) → get "p" m₁ = some (.ref P) → J (ks ++ [kd]) (upd (upd σ₁ a (.tup [.str kd, n])) l (.list (xs ++ [.ref a]))) m₁ := by
    intro ks σ₁ m₁ xs a n kd st hL hx ha g1 g2
    have hal : a ≠ l := fun z => by rw [z, hL] at ha; cases ha
    have s1 : Stp (fun _ => False) σ₁ (upd σ₁ a (.tup [.str kd, n])) := Stp.new ha
    refine ⟨(st.trans s1).atNew hl, ⟨_, upd_self, ?_⟩, g1, g2⟩
    have s2 : Stp (fun b => b = l) (upd σ₁ a (.tup [.str kd, n])) (upd (upd σ₁ a (.tup [.str kd, n])) l (.list (xs ++ [.ref a]))) := Stp.at rfl (upd_new ha hL) rfl
    exact ((hx.leq s1.leq).leq s2.leq).snoc (upd_old hal upd_self)
  refine ex_cons (ex_for Oc ?_)
  have hP1 := hP0.leq (Stp.new (S := fun _ => False) (o := .list [.str X.out]) hnm).leq
  have hin := hP1.ins
  refine ev_pattr (pi := pi) (pr := pr) (X := X) (P := P) k Oc (by decide) rfl rfl (ev_local (by walk_at "G") ⟨rfl, hP1, ?_⟩)
  refine ⟨pi, _, rfl, .tup hin, for_inv (fun i σ' m' => (∃ ks, J ks σ' m' ∧ ks ++ dupF (X.out :: X.ins.take i) (X.ins.drop i) = dupF [X.out] X.ins ∧ ks.length ≤ i) ∧ σ' nm = some (.list ((X.out :: X.ins.take i).map .str)) ∧ get "names" m' = some (.ref nm))
    ⟨⟨[], ⟨((Stp.refl _ σ).atNew hl).atNew hnm0, ⟨[], upd_old hlnm upd_self, .nil⟩, by walk_at "G", by walk_at "G"⟩, by simp, Nat.le_refl _⟩, upd_self, by walk_at "G"⟩ (fun i σ' m' hh => by obtain ⟨⟨ks, hJ, _⟩, _⟩ := hh; rw [hJ.1.leq _ _ rfl hP.ins, hin]) (fun i x σ' m' hx hh => ?_) (fun σ' m' hh => ?_)⟩
  · intro Qs
    obtain ⟨⟨ks, ⟨st, ⟨xs, hL, hxs⟩, m1, m2⟩, e, hlen⟩, hNm, m3⟩ := hh
    have hi : i < X.ins.length := by
      have := (List.getElem?_eq_some_iff.mp hx).1
      simpa using this
    have hxe : x = .str X.ins[i] := by
      rw [List.getElem?_map, List.getElem?_eq_getElem hi] at hx
      cases hx; rfl
    subst hxe
    have he : dupF (X.out :: X.ins.take i) (X.ins.drop i) = dup1 (X.out :: X.ins.take i) X.ins[i] ++ dupF (X.out :: X.ins.take (i + 1)) (X.ins.drop (i + 1)) := by
      rw [List.drop_eq_getElem_cons hi, List.take_succ_eq_append_getElem hi]; rfl
    have hsz : ((X.out :: X.ins.take i).map AV.str).length ≤ small := by rw [List.length_map, List.length_cons, List.length_take]; (first | lia | omega)
    have hnx : (X.out :: X.ins.take i).map AV.str ++ [.str X.ins[i]] = (X.out :: X.ins.take (i + 1)).map AV.str := by rw [List.take_succ_eq_append_getElem hi, ← List.cons_append, List.map_append]; rfl
    refine asg_name (ex_cons (ex_if (ts_cmp (ev_local (by walk_at "G") (ev_local (by walk_at "G") (cmp_in_list hNm (eqA_strs _ (.inl ⟨_, rfl⟩) _) ?_))))))
    rw [anyEq_str]
    refine ⟨fun h => ?_, fun h => ?_⟩
    · have hin : X.ins[i] ∈ X.out :: X.ins.take i := by simpa using h
      unfold dup1 at he
      rw [if_pos hin] at he
      refine ex_cons (ex_expr (ev_meth1 (ev_local (by walk_at "G") ⟨"list.append", m_append hL, ?_⟩)))
      walk_at "W"
      refine ev_neg (ev_int ⟨_, rfl, ?_⟩)
      walk_at "W"
      rename_i a ha
      refine b_append (upd_new ha hL) (by rw [hxs.length]; (first | lia | omega)) ?_
      have hJ := appF (m₁ := put "name" (.str X.ins[i]) m') (n := .int (-1)) "duplicate_port" st hL hxs ha (by walk_at "G") (by walk_at "G")
      have hNm2 := upd_old (a := l) (o := .list (xs ++ [.ref a])) (Ne.symm hlnm) (upd_new (o := .tup [.str (PySem.Str.ofString "duplicate_port"), .int (-1)]) ha hNm)
      refine ex_nil (ex_cons (ex_expr (ev_meth1 (ev_local (by walk_at "G") ⟨"list.append", m_append hNm2, ?_⟩))))
      walk_at "W"
      refine b_append hNm2 hsz (ex_nil ?_)
      obtain ⟨s1, ⟨ys, h1, h2⟩, h3, h4⟩ := hJ
      have s2 : Stp (fun b => b = nm) _ (upd _ nm (.list ((X.out :: X.ins.take i).map AV.str ++ [.str X.ins[i]]))) := Stp.at rfl hNm2 rfl
      refine ⟨⟨_, ⟨s1.atNew hnm0, ⟨ys, upd_old hlnm h1, h2.leq s2.leq⟩, h3, h4⟩, ?_, ?_⟩, ?_, by walk_at "G"⟩
      · rw [← e, he, List.append_assoc]
      · rw [List.length_append]; simp; (first | lia | omega)
      · rw [upd_self, hnx]
    · have hin : ¬ X.ins[i] ∈ X.out :: X.ins.take i := by simpa using h
      unfold dup1 at he
      rw [if_neg hin] at he
      refine ex_nil (ex_cons (ex_expr (ev_meth1 (ev_local (by walk_at "G") ⟨"list.append", m_append hNm, ?_⟩))))
      walk_at "W"
      refine b_append hNm hsz (ex_nil ?_)
      have s2 : Stp (fun b => b = nm) _ (upd _ nm (.list ((X.out :: X.ins.take i).map AV.str ++ [.str X.ins[i]]))) := Stp.at rfl hNm rfl
      refine ⟨⟨ks, ⟨st.atNew hnm0, ⟨xs, upd_old hlnm hL, hxs.leq s2.leq⟩, by walk_at "G", by walk_at "G"⟩, ?_, by (first | lia | omega)⟩, ?_, by walk_at "G"⟩
      · rw [← e, he]; rfl
      · rw [upd_self, hnx]
  · obtain ⟨⟨ks, hJ, e, hlen⟩, _, _⟩ := hh
    rw [List.length_map] at e hlen
    rw [List.drop_length] at e
    have e : ks = dupF [X.out] X.ins := by simpa [dupF] using e
    have hk1 : ks.length ≤ 10 := by (first | lia | omega)
    obtain ⟨st, ⟨xs, hL, hxs⟩, m1, m2⟩ := hJ
    have hPa := hP.leq st.leq
    obtain ⟨rs, hrs, hrows⟩ := hP.rows
    have hrl := hrows.length
    -- from the fourth statement on
    have end4 : ∀ (ks₁ : List PySem.Str) (σ₁ : Store) (m₁ : Loc), J ks₁ σ₁ m₁ → ks₁ = dupF [X.out] X.ins ++ noF X → Ex prog w (c.fm (scOf (nth 36)) none) σ₁ m₁ ((bodyOf (nth 36)).drop 4) fun fl σ' _ => Stp (fun _ => False) σ σ' ∧ ∃ l xs, retOf fl = .ref l ∧ σ l = none ∧ σ' l = some (.list xs) ∧ IsFlts σ' xs (primF X) := by
      rintro ks₁ σ₁ m₁ ⟨st, ⟨xs, hL, hxs⟩, m1, m2⟩ rfl
      refine letQ ?_
      intro Qe
      refine ex_cons (ex_assign (ev_list (evl_nil ⟨Nat.le_of_ble_eq_true rfl, fun s hs => ?_⟩)))
      have hs0 : σ s = none := st.fresh hs (fun a h => h.elim)
      have hls : l ≠ s := ne_of hL hs
      have stn := st.atNew (o := .list []) hs0
      have hPn := hP.leq stn.leq
      refine ex_cons (ex_for Oc (ev_callTy Oc k.range_ boot_range (evl_cons (ev_callB Oc k.len_ boot_len (evl_cons (ev_pattr (pi := pi) (pr := pr) (X := X) (P := P) k Oc (by decide) rfl rfl (ev_local (by walk_at "G") ⟨rfl, hPn, ?_⟩)))))))
      refine evl_nil (b_len_tup (stn.leq _ _ rfl hrs) (by (first | lia | omega)) (evl_nil (t_range fun q hq => ?_)))
      have stq : Stp (fun _ => False) σ (upd (upd σ₁ s (.list [])) q (.rng 0 (rs.length : Int))) := stn.trans (Stp.new hq)
      have hls0 : dupF [X.out] X.ins = ks := e.symm
      have hno : (noF X).length ≤ 1 := len_if (Nat.le_refl _) (Nat.zero_le _)
      let I : Nat → Store → Loc → Prop := fun j σ' m' => (∃ ks idx, J ks σ' m' ∧ ks ++ rowsF X idx j (X.rows.drop j) = primF X ∧ ks.length ≤ 11 + 5 * j ∧ σ' s = some (.list (idx.map fun (i : Nat) => AV.int i)) ∧ idx.length ≤ j ∧ ∀ i ∈ idx, ∃ r, X.rows[i]? = some r ∧ kindsOf X.ins.length r = []) ∧ get "sound" m' = some (.ref s) ∧ σ' q = some (.rng 0 (rs.length : Int))
      refine ⟨q, _, rfl, .rng upd_self (by (first | lia | omega)) (by (first | lia | omega)), for_inv I
        ⟨⟨dupF [X.out] X.ins ++ noF X, [], ⟨stq, ⟨xs, upd_old (ne_of (upd_new hs hL) hq) (upd_new hs hL), hxs.leq ?_⟩, by walk_at "G", by walk_at "G"⟩, rfl, ?_, upd_new hq upd_self, Nat.le_refl _, fun _ h => nomatch h⟩, by walk_at "G", upd_self⟩ (fun j σ' m' hh => by rw [hh.2.2, upd_self]) (fun j x σ' m' hx hh => ?_) (fun σ' m' hh => ?_)⟩
      · exact ((Stp.new (S := fun _ => False) hs).trans (Stp.new hq)).leq
      · rw [List.length_append, hls0]; (first | lia | omega)
      · intro Qs
        obtain ⟨⟨ks', idx, ⟨st', ⟨xs', hL', hxs'⟩, n1, n2⟩, e', hk, hS, hid, hsnd⟩, n3, hq'⟩ := hh
        obtain ⟨hj, rfl⟩ := rng_get hx
        rw [hrl] at hj
        obtain ⟨r, hgr⟩ : ∃ r, X.rows[j]? = some r := ⟨_, List.getElem?_eq_getElem hj⟩
        have hrm : r ∈ X.rows := List.mem_of_getElem? hgr
        obtain ⟨v, hv, hrow⟩ := hrows.get hgr
        have hrow' := hrow.leq st'.leq
        have hP' := hP.leq st'.leq
        have hstep : rowsF X idx j (X.rows.drop j) = oneF X idx j r ++ rowsF X (idxF X idx j r) (j + 1) (X.rows.drop (j + 1)) := by
          rw [List.drop_eq_getElem_cons hj]
          rw [List.getElem?_eq_getElem hj] at hgr
          cases hgr; rfl
        refine asg_name (ex_cons (ex_assign (ev_callG k.row_faults Oc (evl_cons (ev_local (by walk_at "G") (evl_cons (ev_sub (ev_pattr (pi := pi) (pr := pr) (X := X) (P := P) k Oc (by decide) rfl rfl (ev_local (by walk_at "G") ⟨rfl, hP', ev_local (by walk_at "G") <| subq_tup (st'.leq _ _ rfl hrs) (Int.natCast_nonneg _) (by (first | lia | omega)) (by rw [Int.toNat_natCast]; exact hv) (evl_nil ?_)⟩)))))))))
        refine (row_faults_spec k Oc (dp hc hd (Nat.le_of_ble_eq_true rfl)) hP' (by (first | lia | omega)) hrow' (fit _ hrm)).mono fun y σ₂ e => ?_
        obtain ⟨s2, lk, rfl, hlk0, hlk⟩ := e
        have hlkl : l ≠ lk := fun z => by rw [← z, hL'] at hlk0; cases hlk0
        have hlks : s ≠ lk := fun z => by rw [← z, hS] at hlk0; cases hlk0
        have hL2 := s2.chg _ _ (fun z => z) hL'
        have hS2 := s2.chg _ _ (fun z => z) hS
        have hq2 := s2.chg _ _ (fun z => z) hq'
        have hKK := kinds_le X.ins.length r
        generalize hKe : kindsOf X.ins.length r = KK at hlk hKK
        refine ex_cons (ex_for Oc (ev_local (by walk_at "G") ⟨lk, _, rfl, .list hlk, for_inv (fun i σ₃ m₃ => J (ks' ++ KK.take i) σ₃ m₃ ∧ σ₃ lk = some (.list (KK.map .str)) ∧ σ₃ s = some (.list (idx.map fun (i : Nat) => AV.int i)) ∧ σ₃ q = some (.rng 0 (rs.length : Int)) ∧ get "sound" m₃ = some (.ref s) ∧ get "number" m₃ = some (.int (j : Int)) ∧ get "kinds" m₃ = some (.ref lk))
          ⟨⟨st'.trans s2, ⟨xs', hL2, by rw [List.take_zero, List.append_nil]; exact hxs'.leq s2.leq⟩, by walk_at "G", by walk_at "G"⟩, hlk, hS2, hq2, by walk_at "G", by walk_at "G", by walk_at "G"⟩ (fun i σ₃ m₃ hh => by rw [hh.2.1, hlk]) (fun i x σ₃ m₃ hx hh => ?_) (fun σ₃ m₃ hh => ?_)⟩))
        · intro Qs
          obtain ⟨⟨st3, ⟨zs, hL3, hzs⟩, p1, p2⟩, hk3, hS3, hq3, p3, p4, p5⟩ := hh
          have hi : i < KK.length := by
            have := (List.getElem?_eq_some_iff.mp hx).1
            simpa using this
          have hxe : x = .str KK[i] := by
            rw [List.getElem?_map, List.getElem?_eq_getElem hi] at hx
            cases hx; rfl
          subst hxe
          refine asg_name (ex_cons (ex_expr (ev_meth1 (ev_local (by walk_at "G") ⟨"list.append", m_append hL3, ?_⟩))))
          walk_at "W"
          rename_i a ha
          refine b_append (upd_new ha hL3) (by rw [hzs.length, List.length_append, List.length_take]; (first | lia | omega)) (ex_nil ?_)
          have hJ := appF (m₁ := put "kind" (.str KK[i]) m₃) (n := .int (j : Int)) KK[i] st3 hL3 hzs ha (by walk_at "G") (by walk_at "G")
          rw [List.append_assoc, ← List.take_succ_eq_append_getElem hi] at hJ
          exact ⟨hJ, upd_old hlkl.symm (upd_new ha hk3), upd_old hls.symm (upd_new ha hS3), upd_old (fun z => by rw [z, hL3] at hq3; cases hq3) (upd_new ha hq3), by walk_at "G", by walk_at "G", by walk_at "G"⟩
        · obtain ⟨⟨st3, ⟨zs, hL3, hzs⟩, p1, p2⟩, hk3, hS3, hq3, p3, p4, p5⟩ := hh
          rw [List.length_map, List.take_length] at hzs
          refine ex_cons (ex_if (ts_cmp (ev_callB Oc k.len_ boot_len ?_)))
          walk_at "W"
          refine b_len_list hk3 (by rw [List.length_map]; (first | lia | omega)) ?_
          rw [List.length_map]
          refine ev_int (cmp_gt_int ⟨fun h => ?_, fun h => ?_⟩)
          · have hne : KK ≠ [] := by rintro rfl; simp at h
            refine ex_cons (ex_continue ?_)
            have h1 : oneF X idx j r = KK := by unfold oneF; rw [hKe, if_neg hne]
            have h2 : idxF X idx j r = idx := by unfold idxF; rw [hKe, if_neg hne]
            refine ⟨⟨_, idx, ⟨st3, ⟨zs, hL3, hzs⟩, p1, p2⟩, ?_, ?_, hS3, by (first | lia | omega), hsnd⟩, p3, hq3⟩
            · rw [← e', hstep, h1, h2, List.append_assoc]
            · rw [List.length_append]; (first | lia | omega)
          · have hne : KK = [] := by
              cases KK with
              | nil => rfl
              | cons a as => simp at h
            subst hne
            rw [List.append_nil] at hzs
            have h2 : idxF X idx j r = idx ++ [j] := by unfold idxF; rw [hKe, if_pos rfl]
            have h1 : oneF X idx j r = if idx.any (confAt X j) = true then ([PySem.Str.ofString "conflict"] : List PySem.Str) else [] := by unfold oneF; rw [hKe, if_pos rfl]
            have h1l : (oneF X idx j r).length ≤ 1 := by rw [h1]; exact len_if (Nat.le_refl _) (Nat.zero_le _)
            have hplain := sound_of hKe (fit _ hrm)
            have fin : ∀ (ks₂ : List PySem.Str) (σ₄ : Store) (m₄ : Loc), J ks₂ σ₄ m₄ → ks₂ = ks' ++ oneF X idx j r → σ₄ s = some (.list (idx.map fun (i : Nat) => AV.int i)) → σ₄ q = some (.rng 0 (rs.length : Int)) → get "sound" m₄ = some (.ref s) → get "number" m₄ = some (.int (j : Int)) →
                Ex prog w (c.fm (scOf (nth 36)) none) σ₄ m₄ (match ((bodyOf (nth 36)).drop 5).head? with | some (.For _ _ b _ _) => b.drop 4 | _ => []) fun fl σ₅ m₅ => fl = .next ∧ I (j + 1) σ₅ m₅ := by
              rintro ks₂ σ₄ m₄ ⟨st4, ⟨ws, hL4, hws⟩, q1, q2⟩ rfl hS4 hq4 q3 q4
              refine letQ ?_
              intro Qe
              refine ex_cons (ex_expr (ev_meth1 (ev_local q3 ⟨"list.append", m_append hS4, ?_⟩)))
              refine evl_cons (ev_local q4 (evl_nil (b_append hS4 (by rw [List.length_map]; (first | lia | omega)) (ex_nil ⟨rfl, ?_⟩))))
              have s5 : Stp (fun b => b = s) σ₄ (upd σ₄ s (.list ((idx.map fun (i : Nat) => AV.int i) ++ [.int (j : Int)]))) := Stp.at rfl hS4 rfl
              refine ⟨⟨_, idx ++ [j], ⟨st4.atNew hs0, ⟨ws, upd_old hls hL4, hws.leq s5.leq⟩, q1, q2⟩, ?_, ?_, ?_, ?_, ?_⟩, q3, upd_old (fun z => by rw [z, hS4] at hq4; cases hq4) hq4⟩
              · rw [← e', hstep, h2, List.append_assoc]
              · rw [List.length_append]; (first | lia | omega)
              · rw [upd_self, List.map_append]; rfl
              · rw [List.length_append]; simp; (first | lia | omega)
              · intro i hi
                rcases List.mem_append.mp hi with hi | hi
                · exact hsnd i hi
                · cases List.mem_singleton.mp hi
                  exact ⟨r, hgr, hKe⟩
            refine ex_nil (ex_cons (ex_for Oc (ev_local p3 ⟨s, _, rfl, .list hS3, for_inv (fun i σ₄ m₄ => J ks' σ₄ m₄ ∧ σ₄ s = some (.list (idx.map fun (i : Nat) => AV.int i)) ∧ σ₄ q = some (.rng 0 (rs.length : Int)) ∧ get "sound" m₄ = some (.ref s) ∧ get "number" m₄ = some (.int (j : Int)) ∧ (idx.drop i).any (confAt X j) = idx.any (confAt X j))
              ⟨⟨st3, ⟨zs, hL3, hzs⟩, p1, p2⟩, hS3, hq3, p3, p4, rfl⟩ (fun i σ₄ m₄ hh => by rw [hh.2.1, hS3]) (fun i x σ₄ m₄ hx hh => ?_) (fun σ₄ m₄ hh => ?_)⟩)))
            · intro Qs
              obtain ⟨⟨st4, ⟨ws, hL4, hws⟩, q1, q2⟩, hS4, hq4, q3, q4, q5⟩ := hh
              have hi : i < idx.length := by
                have := (List.getElem?_eq_some_iff.mp hx).1
                simpa using this
              have hxe : x = .int (idx[i] : Int) := by
                rw [List.getElem?_map, List.getElem?_eq_getElem hi] at hx
                cases hx; rfl
              subst hxe
              obtain ⟨u, hu, hku⟩ := hsnd idx[i] (List.getElem_mem hi)
              have hul := (List.getElem?_eq_some_iff.mp hu).1
              obtain ⟨vu, hvu, hrowu⟩ := hrows.get hu
              have hpu := sound_of hku (fit u (List.mem_of_getElem? hu))
              have hP4 := hP.leq st4.leq
              have hca : confAt X j idx[i] = conflict u r := by unfold confAt; rw [hu, hgr]
              have hany : (idx.drop i).any (confAt X j) = (conflict u r || (idx.drop (i + 1)).any (confAt X j)) := by rw [List.drop_eq_getElem_cons hi, List.any_cons, hca]
              refine asg_name (ex_cons (ex_if (ts_value (ev_callG k.rows_conflict Oc (evl_cons (ev_sub (ev_pattr (pi := pi) (pr := pr) (X := X) (P := P) k Oc (by decide) rfl rfl (ev_local (by walk_at "G") ⟨rfl, hP4, ev_local (by walk_at "G") <| subq_tup (st4.leq _ _ rfl hrs) (Int.natCast_nonneg _) (by (first | lia | omega)) (by rw [Int.toNat_natCast]; exact hvu) ?_⟩))))))))
              refine evl_cons (ev_sub (ev_pattr (pi := pi) (pr := pr) (X := X) (P := P) k Oc (by decide) rfl rfl (ev_local (by walk_at "G") ⟨rfl, hP4, ev_local (by walk_at "G") <| subq_tup (st4.leq _ _ rfl hrs) (Int.natCast_nonneg _) (by (first | lia | omega)) (by rw [Int.toNat_natCast]; exact hv) ?_⟩)))
              refine evl_nil ((rows_conflict_spec k Oc (dp hc hd (Nat.le_of_ble_eq_true rfl)) (hrowu.leq st4.leq) (hrow.leq st4.leq) hpu.1 hplain.1 (hpu.2.trans hplain.2.symm)).mono fun y σ₅ e => ?_)
              obtain ⟨s5, rfl⟩ := e
              have hL5 := s5.chg _ _ (fun z => z) hL4
              have hS5 := s5.chg _ _ (fun z => z) hS4
              have hq5 := s5.chg _ _ (fun z => z) hq4
              refine ⟨_, rfl, fun h => ?_, fun h => ?_⟩
              · have ht : idx.any (confAt X j) = true := by rw [← q5, hany, h]; rfl
                refine ex_cons (ex_expr (ev_meth1 (ev_local (by walk_at "G") ⟨"list.append", m_append hL5, ?_⟩)))
                walk_at "W"
                rename_i a ha
                refine b_append (upd_new ha hL5) (by rw [hws.length]; (first | lia | omega)) (ex_cons (ex_break ?_))
                refine (fin _ _ _ (appF (n := .int (j : Int)) "conflict" (st4.trans s5) hL5 (hws.leq s5.leq) ha (by walk_at "G") (by walk_at "G")) ?_ (upd_old hls.symm (upd_new ha hS5)) (upd_old (fun z => by rw [z, hL5] at hq5; cases hq5) (upd_new ha hq5)) (by walk_at "G") (by walk_at "G")).mono ?_
                · rw [h1, if_pos ht]
                · rintro fl σ₆ m₆ ⟨rfl, hI⟩; exact hI
              · refine ex_nil (ex_nil ⟨⟨st4.trans s5, ⟨ws, hL5, hws.leq s5.leq⟩, by walk_at "G", by walk_at "G"⟩, hS5, hq5, by walk_at "G", by walk_at "G", ?_⟩)
                rw [← q5, hany, h]; rfl
            · obtain ⟨⟨st4, ⟨ws, hL4, hws⟩, q1, q2⟩, hS4, hq4, q3, q4, q5⟩ := hh
              rw [List.length_map, List.drop_length] at q5
              refine (fin ks' _ _ ⟨st4, ⟨ws, hL4, hws⟩, q1, q2⟩ ?_ hS4 hq4 q3 q4).mono ?_
              · have hf : ¬ idx.any (confAt X j) = true := by rw [← q5]; simp
                rw [h1, if_neg hf, List.append_nil]
              · rintro fl σ₆ m₆ ⟨rfl, hI⟩; exact hI
      · obtain ⟨⟨ks', idx, ⟨st', ⟨xs', hL', hxs'⟩, n1, n2⟩, e', _⟩, _⟩ := hh
        have e' : ks' = primF X := by
          rw [List.drop_eq_nil_of_le (by simp; (first | lia | omega))] at e'
          simpa [rowsF] using e'
        subst e'
        exact ex_cons (ex_ret (ev_local n1 ⟨st', l, xs', rfl, hl, hL', hxs'⟩))
    refine ex_cons (ex_if (ts_cmp ?_))
    refine ev_callB Oc k.len_ boot_len (evl_cons (ev_pattr (pi := pi) (pr := pr) (X := X) (P := P) k Oc (by decide) rfl rfl (ev_local m2 ⟨rfl, hPa, ?_⟩)))
    walk_at "W"
    refine b_len_tup (st.leq _ _ rfl hrs) (by (first | lia | omega)) ?_
    rw [hrl]
    refine ev_int (cmp_eq_int ⟨fun h => ?_, fun h => ?_⟩)
    · have h0 : X.rows.length = 0 := by simpa using h
      refine ex_cons (ex_expr (ev_meth1 (ev_local m1 ⟨"list.append", m_append hL, ?_⟩)))
      walk_at "W"
      refine ev_neg (ev_int ⟨_, rfl, ?_⟩)
      walk_at "W"
      rename_i a ha
      refine b_append (upd_new ha hL) (by rw [hxs.length]; (first | lia | omega)) (ex_nil ?_)
      exact end4 _ _ _ (appF (n := .int (-1)) "no_rows" st hL hxs ha m1 m2) (by rw [e]; unfold noF; rw [if_pos h0])
    · have h0 : ¬ X.rows.length = 0 := by simpa using h
      exact ex_nil (end4 _ _ _ ⟨st, ⟨xs, hL, hxs⟩, m1, m2⟩ (by rw [e]; unfold noF; rw [if_neg h0, List.append_nil]))
theorem prim_spec (k : Kit K) (O : F.Ok K) (hd : 2 ≤ F.C.d) {X : Prim} {pi pr : Addr} {Q : AV → Store → Prop} (hi : σ pi = some (.tup (X.ins.map .str))) (hr : ∃ xs, σ pr = some (.tup xs) ∧ IsURows σ xs X.rows)
    (h : ∀ P σ', σ P = none → Stp (fun _ => False) σ σ' → IsPrim k σ' P X pi pr → Q (.ref P) σ') : CallF prog w F σ m k.Primitive [.str X.name, .int X.mark, .str X.out, .ref pi, .bool false, .int 3, .ref pr] Q := by
  refine b_class O k.primC fun rest x dx hxd hd0 hx0 => ?_
  refine codeK k.primF (O.under (by (first | lia | omega))) (by show 1 ≤ F.C.d - 1; (first | lia | omega)) fun c Oc _ _ => ?_
  refine letQ ?_
  intro Qf
  have hx1 : upd (upd σ dx (.idict [])) x (.inst k.Primitive dx) x = some (.inst k.Primitive dx) := upd_self
  have hd1 : upd (upd σ dx (.idict [])) x (.inst k.Primitive dx) dx = some (.idict []) := upd_old (Ne.symm hxd) upd_self
  refine ex_cons (ex_assign_attr Oc (ev_local rfl (ev_local rfl ⟨x, k.Primitive, dx, _, rfl, hx1, hd1, by simp, (k.primS "name" (by decide)).1, ?_⟩)))
  refine ex_cons (ex_assign_attr Oc (ev_local rfl (ev_local rfl ⟨x, k.Primitive, dx, _, rfl, upd_old hxd hx1, upd_self, Nat.le_of_ble_eq_true rfl, (k.primS "at" (by decide)).1, ?_⟩)))
  refine ex_cons (ex_assign_attr Oc (ev_local rfl (ev_local rfl ⟨x, k.Primitive, dx, _, rfl, upd_old hxd (upd_old hxd hx1), upd_self, Nat.le_of_ble_eq_true rfl, (k.primS "output" (by decide)).1, ?_⟩)))
  refine ex_cons (ex_assign_attr Oc (ev_local rfl (ev_local rfl ⟨x, k.Primitive, dx, _, rfl, upd_old hxd (upd_old hxd (upd_old hxd hx1)), upd_self, Nat.le_of_ble_eq_true rfl, (k.primS "inputs" (by decide)).1, ?_⟩)))
  refine ex_cons (ex_assign_attr Oc (ev_local rfl (ev_local rfl ⟨x, k.Primitive, dx, _, rfl, upd_old hxd (upd_old hxd (upd_old hxd (upd_old hxd hx1))), upd_self, Nat.le_of_ble_eq_true rfl, (k.primS "sequential" (by decide)).1, ?_⟩)))
  refine ex_cons (ex_assign_attr Oc (ev_local rfl (ev_local rfl ⟨x, k.Primitive, dx, _, rfl, upd_old hxd (upd_old hxd (upd_old hxd (upd_old hxd (upd_old hxd hx1)))), upd_self, Nat.le_of_ble_eq_true rfl, (k.primS "init" (by decide)).1, ?_⟩)))
  refine ex_cons (ex_assign_attr Oc (ev_local rfl (ev_local rfl ⟨x, k.Primitive, dx, _, rfl, upd_old hxd (upd_old hxd (upd_old hxd (upd_old hxd (upd_old hxd (upd_old hxd hx1))))), upd_self, Nat.le_of_ble_eq_true rfl, (k.primS "rows" (by decide)).1, ?_⟩)))
  have s0 : Stp (fun _ => False) σ (upd (upd σ dx (.idict [])) x (.inst k.Primitive dx)) := ((Stp.refl _ σ).atNew hd0).atNew hx0
  have s1 := ((((((s0.atNew (o := .idict [("name", .str X.name)]) hd0).atNew (o := .idict [("name", .str X.name), ("at", .int X.mark)]) hd0).atNew (o := .idict [("name", .str X.name), ("at", .int X.mark), ("output", .str X.out)]) hd0).atNew (o := .idict [("name", .str X.name), ("at", .int X.mark), ("output", .str X.out), ("inputs", .ref pi)]) hd0).atNew (o := .idict [("name", .str X.name), ("at", .int X.mark), ("output", .str X.out), ("inputs", .ref pi), ("sequential", .bool false)]) hd0).atNew (o := .idict [("name", .str X.name), ("at", .int X.mark), ("output", .str X.out), ("inputs", .ref pi), ("sequential", .bool false), ("init", .int 3)]) hd0).atNew (o := .idict (pDict X pi pr)) hd0
  obtain ⟨xs, hx, hxs⟩ := hr
  exact ex_nil ⟨rfl, h x _ hx0 s1 ⟨⟨dx, upd_old hxd (upd_old hxd (upd_old hxd (upd_old hxd (upd_old hxd (upd_old hxd (upd_old hxd hx1)))))), upd_self⟩, s1.leq _ _ rfl hi, xs, s1.leq _ _ rfl hx, hxs.leq s1.leq⟩⟩

/-! units -/
inductive Un
  | md (M : Md)
  | pr (X : Prim)
noncomputable def Un.name : Un → PySem.Str
  | .md M => M.name
  | .pr X => X.name
noncomputable def Un.mark : Un → Int
  | .md M => M.mark
  | .pr X => X.mark
noncomputable def Un.ports : Un → List PySem.Str
  | .md M => M.ports
  | .pr X => X.out :: X.ins
noncomputable def IsUn (k : Kit K) (σ : Store) (v : AV) : Un → Prop
  | .md M => IsMd σ v M
  | .pr X => ∃ P pi pr, v = .ref P ∧ IsPrim k σ P X pi pr
theorem IsUn.leq {k : Kit K} {σ' : Store} (hs : Leq σ σ') {v : AV} : ∀ {U : Un}, IsUn k σ v U → IsUn k σ' v U
  | .md _, h => IsMd.leq hs h
  | .pr _, ⟨P, pi, pr, e, h⟩ => ⟨P, pi, pr, e, h.leq hs⟩
noncomputable def IsUns (k : Kit K) (σ : Store) : List AV → List Un → Prop
  | [], [] => True
  | v :: vs, u :: us => IsUn k σ v u ∧ IsUns k σ vs us
  | _, _ => False
theorem IsUns.leq {k : Kit K} {σ' : Store} (hs : Leq σ σ') : ∀ {xs : List AV} {us : List Un}, IsUns k σ xs us → IsUns k σ' xs us
  | [], [], _ => trivial
  | _ :: _, _ :: _, h => ⟨h.1.leq hs, h.2.leq hs⟩
theorem IsUns.length {k : Kit K} : ∀ {xs : List AV} {us : List Un}, IsUns k σ xs us → xs.length = us.length
  | [], [], _ => rfl
  | _ :: _, _ :: _, h => by rw [List.length_cons, List.length_cons, h.2.length]
theorem IsUns.get {k : Kit K} : ∀ {xs : List AV} {us : List Un}, IsUns k σ xs us → ∀ {i : Nat} {x : AV}, xs[i]? = some x → ∃ u, us[i]? = some u ∧ us.drop i = u :: us.drop (i + 1) ∧ IsUn k σ x u
  | [], [], _, _, _, e => by simp at e
  | _ :: _, _ :: _, h, 0, r, e => by cases e; exact ⟨_, rfl, rfl, h.1⟩
  | _ :: _, _ :: _, h, i + 1, r, e => by
    rw [List.getElem?_cons_succ] at e ⊢
    exact h.2.get e
theorem IsUns.snoc {k : Kit K} {v : AV} {u : Un} : ∀ {xs : List AV} {us : List Un}, IsUns k σ xs us → IsUn k σ v u → IsUns k σ (xs ++ [v]) (us ++ [u])
  | [], [], _, h => ⟨h, trivial⟩
  | _ :: _, _ :: _, h, h' => ⟨h.1, h.2.snoc h'⟩
structure Prim.Fine (X : Prim) : Prop where
  ins : X.ins.length ≤ 10
  some : X.ins ≠ []
  rows : X.rows.length ≤ 10
  fit : ∀ r ∈ X.rows, r.Fit
noncomputable def Un.Fine : Un → Prop
  | .md M => M.Small
  | .pr X => X.Fine

noncomputable abbrev PM := PySem.Str → Option (List PySem.Str)
noncomputable def pm0 : PM := fun _ => none
noncomputable def pmPut (pm : PM) (x : PySem.Str) (ps : List PySem.Str) : PM := fun y => if y = x then some ps else pm y
noncomputable def pmU (pm : PM) (U : Un) : PM := if (pm U.name).isSome then pm else pmPut pm U.name U.ports
noncomputable def pmAll : PM → List Un → PM
  | pm, [] => pm
  | pm, U :: us => pmAll (pmU pm U) us
noncomputable def uRows : Un → List Row
  | .md _ => []
  | .pr X => (primF X).map fun kd => ⟨X.mark, kd, X.name⟩
noncomputable def dupU (pm : PM) (U : Un) : List Row := if (pm U.name).isSome then [⟨U.mark, "duplicate", U.name⟩] else []
noncomputable def src1 : PM → List Un → List Row
  | _, [] => []
  | pm, U :: us => uRows U ++ dupU pm U ++ src1 (pmU pm U) us
noncomputable def mRows (pm : PM) : Un → List Row
  | .md M => checkRows pm M
  | .pr _ => []
noncomputable def srcRows (us : List Un) : List Row := src1 pm0 us ++ us.flatMap (mRows (pmAll pm0 us))

theorem RowsK.app {xs ys : List AV} {rs qs : List Row} (h : RowsK σ xs rs) (h' : RowsK σ ys qs) : RowsK σ (xs ++ ys) (rs ++ qs) := by
  induction h with
  | nil => exact h'
  | cons e _ ih => exact .cons e ih
/-- the dictionary of names, under way -/
noncomputable def NmsL (σ : Store) (N : Addr) (pm : PM) (n : Nat) : Prop :=
  ∃ nds, σ N = some (.dict nds) ∧ nds.length ≤ n ∧ ∀ x, (get x nds = none ∧ pm x = none) ∨ ∃ pa ps, get x nds = some (.ref pa) ∧ pm x = some ps ∧ ps.length ≤ small ∧ σ pa = some (.tup (ps.map .str))
theorem NmsL.keep {σ' : Store} {N : Addr} {pm : PM} {n : Nat} (h : NmsL σ N pm n) (hs : Leq σ σ') (hn : σ' N = σ N) : NmsL σ' N pm n := by
  obtain ⟨nds, h1, h2, h3⟩ := h
  refine ⟨nds, hn.trans h1, h2, fun x => ?_⟩
  rcases h3 x with h | ⟨pa, ps, e1, e2, e3, e4⟩
  · exact .inl h
  · exact .inr ⟨pa, ps, e1, e2, e3, hs _ _ rfl e4⟩
theorem NmsL.more {N : Addr} {pm : PM} {n n' : Nat} (h : NmsL σ N pm n) (hn : n ≤ n') : NmsL σ N pm n' := by
  obtain ⟨nds, h1, h2, h3⟩ := h
  exact ⟨nds, h1, Nat.le_trans h2 hn, h3⟩
theorem NmsL.toNms {N : Addr} {pm : PM} {n : Nat} (h : NmsL σ N pm n) (hn : n ≤ small) : Nms σ N pm := by
  obtain ⟨nds, h1, h2, h3⟩ := h
  exact ⟨nds, h1, Nat.le_trans h2 hn, h3⟩
theorem NmsL.put {N pa : Addr} {pm : PM} {n : Nat} {x : PySem.Str} {ps : List PySem.Str} {nds : Loc} (h : NmsL σ N pm n) (he : σ N = some (.dict nds)) (hp : σ pa = some (.tup (ps.map .str))) (hz : ps.length ≤ small) : NmsL (upd σ N (.dict (Mine.put x (.ref pa) nds))) N (pmPut pm x ps) (n + 1) := by
  obtain ⟨nds', h1, h2, h3⟩ := h
  rw [he] at h1; cases h1
  have hne : ∀ {a l}, σ a = some (.tup l) → a ≠ N := fun e => ne_of' e he (by intro h; cases h)
  refine ⟨_, upd_self, Nat.le_trans (put_length _ _ _) (by (first | lia | omega)), fun y => ?_⟩
  unfold pmPut
  rw [get_put]
  by_cases q : y = x
  · rw [if_pos q, if_pos q]; exact .inr ⟨pa, ps, rfl, rfl, hz, upd_old (hne hp) hp⟩
  · rw [if_neg q, if_neg q]
    rcases h3 y with h | ⟨pa', ps', e1, e2, e3, e4⟩
    · exact .inl h
    · exact .inr ⟨pa', ps', e1, e2, e3, upd_old (hne e4) e4⟩
theorem TabOk.set {P L : Addr} {lpos : Pos} {qual : PySem.Str} {xs ys : List AV} (h : TabOk P lpos qual σ) (hL : σ L = some (.list xs)) : TabOk P lpos qual (upd σ L (.list ys)) := by
  rcases h with h | ⟨c, h, h'⟩
  · exact .inl (upd_old (ne_of' h hL (by intro h; cases h)) h)
  · exact .inr ⟨c, upd_old (ne_of' h hL (by intro h; cases h)) h, upd_old (ne_of' h' hL (by intro h; cases h)) h'⟩
theorem check_source_spec (k : Kit K) (O : F.Ok K) (hd : 7 ≤ F.C.d) {A : Addr} {vs : List AV} {us : List Un} (hA : σ A = some (.list vs)) (hU : IsUns k σ vs us) (fine : ∀ u ∈ us, u.Fine) (hn : us.length ≤ 10) (tab : Tab k σ) (h64 : (srcRows us).length < 64) :
    CallF prog w F σ m k.check_source.f [.ref A] fun r σ' => Stp (One k.tabP) σ σ' ∧ Tab k σ' ∧ ∃ D ys rs', r = .ref D ∧ σ D = none ∧ σ' D = some (.list ys) ∧ RowsK σ' ys rs' ∧ rs'.Perm (srcRows us) ∧ rs'.Pairwise (fun a b => lt3 b a = false) := by
  have hsm : small = 1000 := rfl
  have hvl := hU.length
  have hsrc : (src1 pm0 us).length ≤ (srcRows us).length := by unfold srcRows; rw [List.length_append]; omega
  obtain ⟨tabo, htab⟩ := tab.at
  have hAT : A ≠ k.tabP := ne_of' hA htab (by intro h; cases h)
  refine callK k.check_source.fn O (Nat.le_trans (Nat.le_of_ble_eq_true rfl) hd) fun c Oc hc _ => ?_
  refine letQ ?_
  intro Qf
  refine ex_cons (ex_assign (ev_dict0 fun N hN => ex_cons (ex_assign (ev_list (evl_nil ⟨Nat.le_of_ble_eq_true rfl, fun L hL => ?_⟩)))))
  have hNL : N ≠ L := ne_of upd_self hL
  have hL0 : σ L = none := by rw [← hL]; exact (upd_old (Ne.symm hNL) rfl).symm
  let I1 : Nat → Store → Loc → Prop := fun i σ' m' => Stp (fun _ => False) σ σ' ∧ (∃ pm rs xs, NmsL σ' N pm i ∧ σ' L = some (.list xs) ∧ RowsK σ' xs rs ∧ rs ++ src1 pm (us.drop i) = src1 pm0 us ∧ pmAll pm (us.drop i) = pmAll pm0 us) ∧ get "names" m' = some (.ref N) ∧ get "rows" m' = some (.ref L) ∧ get "modules" m' = some (.ref A)
  refine ex_cons (ex_for Oc (ev_local (by walk_at "G") ⟨A, vs, rfl, .list ((((Stp.refl (fun _ => False) σ).atNew hN).atNew hL0).chg _ _ (fun z => z) hA), for_inv I1
    ⟨((Stp.refl (fun _ => False) σ).atNew hN).atNew hL0, ⟨pm0, [], [], ⟨[], upd_old hNL upd_self, Nat.le_refl _, fun x => .inl ⟨rfl, rfl⟩⟩, upd_self, .nil, rfl, rfl⟩, by walk_at "G", by walk_at "G", by walk_at "G"⟩
    (fun i σ' m' hh => by rw [hh.1.chg _ _ (fun z => z) hA, (((Stp.refl (fun _ => False) σ).atNew hN).atNew hL0).chg _ _ (fun z => z) hA]) (fun i x σ' m' hx hh => ?_) (fun σ' m' hh => ?_)⟩))
  · intro Qs
    obtain ⟨st, ⟨pm, rs, xs, hNm, hLl, hrk, e1, e2⟩, m1, m2, m3⟩ := hh
    obtain ⟨U, hUi, hdrop, hu⟩ := hU.get hx
    have hil := (List.getElem?_eq_some_iff.mp hUi).1
    have hUf := fine U (List.mem_of_getElem? hUi)
    rw [hdrop] at e1 e2
    have e1 : rs ++ (uRows U ++ dupU pm U ++ src1 (pmU pm U) (us.drop (i + 1))) = src1 pm0 us := e1
    have e2 : pmAll (pmU pm U) (us.drop (i + 1)) = pmAll pm0 us := e2
    have hup : U.ports.length ≤ 11 := by
      cases U with
      | md M => exact Nat.le_trans hUf.ports (by omega)
      | pr X => exact Nat.succ_le_succ hUf.ins
    have hu' := hu.leq st.leq
    have fin : ∀ (rs₁ : List Row) (xs₁ : List AV) (σ₁ : Store) (m₁ : Loc) (pa : Addr), Stp (fun _ => False) σ σ₁ → NmsL σ₁ N pm i → σ₁ L = some (.list xs₁) → RowsK σ₁ xs₁ rs₁ → rs₁ = rs ++ uRows U → σ₁ pa = some (.tup (U.ports.map .str)) →
        get "names" m₁ = some (.ref N) → get "rows" m₁ = some (.ref L) → get "modules" m₁ = some (.ref A) → get "name" m₁ = some (.str U.name) → get "at" m₁ = some (.int U.mark) → get "ports" m₁ = some (.ref pa) →
        Ex prog w (c.fm (scOf (nth 55)) none) σ₁ m₁ (match ((bodyOf (nth 55)).drop 2).head? with | some (.For _ _ b _ _) => b.drop 1 | _ => []) fun fl σ₂ m₂ => fl = .next ∧ I1 (i + 1) σ₂ m₂ := by
      rintro rs₁ xs₁ σ₁ m₁ pa st1 hN1 hL1 hrk1 rfl hpa g1 g2 g3 g4 g5 g6
      refine letQ ?_
      intro Qe
      obtain ⟨nds, hNd, hNl, hNe⟩ := id hN1
      have hlen : (rs ++ uRows U).length ≤ small := by
        have := congrArg List.length e1
        rw [List.length_append, List.length_append, List.length_append] at this
        rw [List.length_append]; omega
      refine ex_cons (ex_if (ts_cmp (ev_local g4 (ev_local g1 (cmp_in_dict hNd ⟨fun hin => ?_, fun hin => ?_⟩)))))
      · have hs : (pm U.name).isSome = true := by
          rcases hNe U.name with ⟨a, b⟩ | ⟨v, b, a, e, _⟩
          · rw [a] at hin; cases hin
          · rw [e]; rfl
        refine ex_cons (ex_expr (ev_meth1 (ev_local g2 ⟨"list.append", m_append hL1, ?_⟩)))
        walk_at "W"
        rename_i a ha
        have s1 : Stp (fun _ => False) σ₁ (upd σ₁ a (.tup [.str "duplicate", .int U.mark, .str U.name])) := Stp.new ha
        refine b_append (upd_new ha hL1) (by rw [hrk1.length]; exact hlen) (ex_nil (ex_nil ⟨rfl, (st1.trans s1).atNew hL0, ⟨pm, (rs ++ uRows U) ++ [⟨U.mark, "duplicate", U.name⟩], _, ?_, upd_self, ?_, ?_, ?_⟩, g1, g2, g3⟩))
        · have s2 : Stp (fun b => b = L) _ (upd (upd σ₁ a (.tup [.str "duplicate", .int U.mark, .str U.name])) L (.list (xs₁ ++ [.ref a]))) := Stp.at rfl (upd_new ha hL1) rfl
          exact (hN1.keep (s1.leq) (upd_old (ne_of hNd ha) rfl) |>.keep s2.leq (upd_old hNL rfl)).more (Nat.le_succ _)
        · have s2 : Stp (fun b => b = L) _ (upd (upd σ₁ a (.tup [.str "duplicate", .int U.mark, .str U.name])) L (.list (xs₁ ++ [.ref a]))) := Stp.at rfl (upd_new ha hL1) rfl
          exact RowsK.snoc (r := ⟨U.mark, "duplicate", U.name⟩) ((hrk1.leq s1.leq).leq s2.leq) (upd_old (fun z => by rw [z, hL1] at ha; cases ha) upd_self)
        · have h1 : dupU pm U = [⟨U.mark, "duplicate", U.name⟩] := if_pos hs
          have h2 : pmU pm U = pm := if_pos hs
          rw [h1, h2] at e1
          rw [← e1]; simp
        · have h2 : pmU pm U = pm := if_pos hs
          rw [h2] at e2; exact e2
      · have hs : (pm U.name).isSome = false := by
          rcases hNe U.name with ⟨a, b⟩ | ⟨v, b, a, e, _⟩
          · rw [b]; rfl
          · rw [a] at hin; cases hin
        have hs' : ¬ (pm U.name).isSome = true := by rw [hs]; exact Bool.false_ne_true
        have s2 : Stp (fun b => b = N) σ₁ (upd σ₁ N (.dict (put U.name (.ref pa) nds))) := Stp.at rfl hNd rfl
        refine ex_cons (ex_assign_sub (ev_local g6 (ev_local g1 (ev_local g4 (seti_dict hNd (by omega) (ex_nil (ex_nil ⟨rfl, st1.atNew hN, ⟨_, rs ++ uRows U, _, hN1.put hNd hpa (by omega), upd_old hNL.symm hL1, hrk1.leq s2.leq, ?_, ?_⟩, g1, g2, g3⟩)))))))
        · have h1 : dupU pm U = [] := if_neg hs'
          have h2 : pmU pm U = pmPut pm U.name U.ports := if_neg hs'
          rw [h1, h2] at e1
          rw [← e1]; simp
        · have h2 : pmU pm U = pmPut pm U.name U.ports := if_neg hs'
          rw [h2] at e2; exact e2
    refine asg_name ?_
    cases U with
    | md M =>
      obtain ⟨a, e, p, ii, ixs, rfl, ha, he, hp, hi, hits⟩ := IsMd.ex hu'
      refine ex_cons (ex_if (ts_value (ev_callB Oc k.isinstance_ boot_isinstance (evl_cons (ev_local (by walk_at "G") (evl_cons (ev_global Oc k.primN (evl_nil (b_isi_tup Oc ha k.primT ?_)))))))))
      refine ⟨false, rfl, fun h => (nomatch h), fun _ => ?_⟩
      refine ex_cons (ex_assign (ev_sub (ev_local (by walk_at "G") (ev_int <| subq_tup ha (by decide) (by decide) (by rfl) ?_))))
      refine ex_cons (ex_assign (ev_sub (ev_local (by walk_at "G") (ev_int <| subq_tup ha (by decide) (by decide) (by rfl) ?_))))
      refine ex_cons (ex_assign (ev_sub (ev_local (by walk_at "G") (ev_int <| subq_tup ha (by decide) (by decide) (by rfl) ?_))))
      refine ex_nil ((fin rs xs σ' _ p st hNm hLl hrk (by show _ = rs ++ []; rw [List.append_nil]) hp (by walk_at "G") (by walk_at "G") (by walk_at "G") (by walk_at "G") (by walk_at "G") (by walk_at "G")).mono ?_)
      rintro fl σ₂ m₂ ⟨rfl, hI⟩; exact hI
    | pr X =>
      obtain ⟨P, pi, pr, rfl, hP⟩ := hu'
      obtain ⟨Pd, ho1, ho2⟩ := hP.obj
      refine ex_cons (ex_if (ts_value (ev_callB Oc k.isinstance_ boot_isinstance (evl_cons (ev_local (by walk_at "G") (evl_cons (ev_global Oc k.primN (evl_nil (b_isi_inst Oc ho1 ho2 k.primY ?_)))))))))
      refine ⟨true, rfl, fun _ => ?_, fun h => nomatch h⟩
      refine ex_cons (ex_assign (ev_pattr (pi := pi) (pr := pr) (X := X) (P := P) k Oc (by decide) rfl rfl (ev_local (by walk_at "G") ⟨rfl, hP, ?_⟩)))
      refine ex_cons (ex_assign (ev_pattr (pi := pi) (pr := pr) (X := X) (P := P) k Oc (by decide) rfl rfl (ev_local (by walk_at "G") ⟨rfl, hP, ?_⟩)))
      refine ex_cons (ex_assign (ev_bin (ev_tuple (evl_cons (ev_pattr (pi := pi) (pr := pr) (X := X) (P := P) k Oc (by decide) rfl rfl (ev_local (by walk_at "G") ⟨rfl, hP, evl_nil ⟨Nat.le_of_ble_eq_true rfl, fun t ht => ?_⟩⟩))))))
      have sa : Stp (fun _ => False) σ' (upd σ' t (.tup [.str X.out])) := Stp.new ht
      have hPa := hP.leq sa.leq
      refine ev_pattr (pi := pi) (pr := pr) (X := X) (P := P) k Oc (by decide) rfl rfl (ev_local (by walk_at "G") ⟨rfl, hPa, ?_⟩)
      refine bin_add_tup upd_self hPa.ins (by have := hUf.ins; simp; omega) (fun h => by cases h) (fun _ h => absurd (List.map_eq_nil_iff.mp h) hUf.some) fun _ _ pa hpa => ?_
      have sb := sa.trans (Stp.new (o := .tup ([.str X.out] ++ X.ins.map .str)) hpa)
      have hPb := hP.leq sb.leq
      have hpb := upd_self (σ := upd σ' t (.tup [.str X.out])) (a := pa) (o := .tup ([.str X.out] ++ X.ins.map .str))
      generalize upd (upd σ' t (.tup [.str X.out])) pa (.tup ([.str X.out] ++ X.ins.map .str)) = σ₁ at sb hPb hpb
      refine ex_cons (ex_for Oc (ev_callG k.check_primitive Oc (evl_cons (ev_local (by walk_at "G") (evl_nil ?_)))))
      refine (check_primitive_spec k Oc (dp hc hd (Nat.le_of_ble_eq_true rfl)) hPb hUf.ins hUf.rows hUf.fit).mono fun y σ₂ e => ?_
      obtain ⟨s2, lf, fxs, rfl, hf0, hf, hfx⟩ := e
      have hLf : L ≠ lf := fun z => by rw [← z, sb.chg _ _ (fun z => z) hLl] at hf0; cases hf0
      have st2 := sb.trans s2
      obtain ⟨nds, hNd, _⟩ := id hNm
      refine ⟨lf, fxs, rfl, .list hf, for_inv (fun j σ₃ m₃ => Stp (fun _ => False) σ σ₃ ∧ NmsL σ₃ N pm i ∧ (∃ zs, σ₃ L = some (.list zs) ∧ RowsK σ₃ zs (rs ++ ((primF X).take j).map fun kd => ⟨X.mark, kd, X.name⟩)) ∧ σ₃ pa = some (.tup ((X.out :: X.ins).map .str)) ∧ σ₃ lf = some (.list fxs) ∧ IsFlts σ₃ fxs (primF X) ∧ get "names" m₃ = some (.ref N) ∧ get "rows" m₃ = some (.ref L) ∧ get "modules" m₃ = some (.ref A) ∧ get "name" m₃ = some (.str X.name) ∧ get "at" m₃ = some (.int X.mark) ∧ get "ports" m₃ = some (.ref pa))
        ⟨st.trans st2, hNm.keep st2.leq (by rw [st2.chg _ _ (fun z => z) hNd, hNd]), ⟨xs, st2.chg _ _ (fun z => z) hLl, by rw [List.take_zero]; show RowsK σ₂ xs (rs ++ []); rw [List.append_nil]; exact hrk.leq st2.leq⟩, s2.leq _ _ rfl hpb, hf, hfx, by walk_at "G", by walk_at "G", by walk_at "G", by walk_at "G", by walk_at "G", by walk_at "G"⟩
        (fun j σ₃ m₃ hh => by rw [hh.2.2.2.2.1, hf]) (fun j x σ₃ m₃ hx hh => ?_) (fun σ₃ m₃ hh => ?_)⟩
      · intro Qs
        obtain ⟨st3, hN3, ⟨zs, hL3, hrk3⟩, hpa3, hf3, hfx3, g1, g2, g3, g4, g5, g6⟩ := hh
        obtain ⟨kd, fa, fn, hdr, rfl, hfa⟩ := hfx3.get hx
        have hjl : j < (primF X).length := by
          have := (List.getElem?_eq_some_iff.mp hx).1
          rw [← hfx3.length]; exact this
        have htk : (primF X).take (j + 1) = (primF X).take j ++ [kd] := by
          rw [List.take_succ_eq_append_getElem hjl]
          rw [List.drop_eq_getElem_cons hjl] at hdr
          rw [(List.cons.inj hdr).1]
        have hlen : (rs ++ ((primF X).take j).map fun kd => (⟨X.mark, kd, X.name⟩ : Row)).length ≤ small := by
          have := congrArg List.length e1
          have h2 : (uRows (.pr X)).length = (primF X).length := List.length_map ..
          rw [List.length_append, List.length_append, List.length_append] at this
          rw [List.length_append, List.length_map, List.length_take]; omega
        refine asg_tuple Oc hfa (asgl_cons (asg_name (asgl_cons (asg_name (asgl_nil ?_)))))
        refine ex_cons (ex_expr (ev_meth1 (ev_local (by walk_at "G") ⟨"list.append", m_append hL3, ?_⟩)))
        walk_at "W"
        rename_i a ha
        have s3 : Stp (fun _ => False) σ₃ (upd σ₃ a (.tup [.str kd, .int X.mark, .str X.name])) := Stp.new ha
        have s4 : Stp (fun b => b = L) _ (upd (upd σ₃ a (.tup [.str kd, .int X.mark, .str X.name])) L (.list (zs ++ [.ref a]))) := Stp.at rfl (upd_new ha hL3) rfl
        have hN3' : ∃ nds, σ₃ N = some (.dict nds) := by obtain ⟨nds, h, _⟩ := hN3; exact ⟨nds, h⟩
        obtain ⟨nds3, hNd3⟩ := hN3'
        refine b_append (upd_new ha hL3) (by rw [hrk3.length]; exact hlen) (ex_nil ⟨(st3.trans s3).atNew hL0, (hN3.keep s3.leq (upd_old (ne_of hNd3 ha) rfl)).keep s4.leq (upd_old hNL rfl), ⟨_, upd_self, ?_⟩, s4.leq _ _ rfl (s3.leq _ _ rfl hpa3), upd_old hLf.symm (upd_new ha hf3), (hfx3.leq s3.leq).leq s4.leq, by walk_at "G", by walk_at "G", by walk_at "G", by walk_at "G", by walk_at "G", by walk_at "G"⟩)
        rw [htk, List.map_append, ← List.append_assoc]
        exact RowsK.snoc (r := ⟨X.mark, kd, X.name⟩) ((hrk3.leq s3.leq).leq s4.leq) (upd_old (fun z => by rw [z, hL3] at ha; cases ha) upd_self)
      · obtain ⟨st3, hN3, ⟨zs, hL3, hrk3⟩, hpa3, hf3, hfx3, g1, g2, g3, g4, g5, g6⟩ := hh
        rw [hfx3.length, List.take_length] at hrk3
        refine ex_nil ((fin _ zs σ₃ _ pa st3 hN3 hL3 hrk3 rfl hpa3 g1 g2 g3 g4 g5 g6).mono ?_)
        rintro fl σ₂ m₂ ⟨rfl, hI⟩; exact hI
  · obtain ⟨st, ⟨pm, rs, xs, hNm, hLl, hrk, e1, e2⟩, m1, m2, m3⟩ := hh
    have e1 : rs = src1 pm0 us := by
      rw [hvl, List.drop_length] at e1
      simpa [src1] using e1
    have e2 : pm = pmAll pm0 us := by
      rw [hvl, List.drop_length] at e2
      exact e2
    subst e1; subst e2
    have hNm := hNm.toNms (by omega)
    have tab1 : Tab k σ' := tab.up' st
    have hLT : L ≠ k.tabP := fun z => by rw [z, htab] at hL0; cases hL0
    have hNT : N ≠ k.tabP := fun z => by rw [z, htab] at hN; cases hN
    let I2 : Nat → Store → Loc → Prop := fun i σ₁ m₁ => Stp (One k.tabP) σ σ₁ ∧ Tab k σ₁ ∧ Nms σ₁ N (pmAll pm0 us) ∧ (∃ zs qs, σ₁ L = some (.list zs) ∧ RowsK σ₁ zs qs ∧ qs.Perm (src1 pm0 us ++ (us.take i).flatMap (mRows (pmAll pm0 us)))) ∧ get "names" m₁ = some (.ref N) ∧ get "rows" m₁ = some (.ref L)
    have hA1 := st.chg _ _ (fun z => z) hA
    refine ex_cons (ex_for Oc (ev_local m3 ⟨A, vs, rfl, .list hA1, for_inv I2
      ⟨st.weak fun _ z => z.elim, tab1, hNm, ⟨xs, _, hLl, hrk, by simp⟩, m1, m2⟩
      (fun i σ₁ m₁ hh => by rw [hh.1.chg _ _ hAT hA, hA1]) (fun i x σ₁ m₁ hx hh => ?_) (fun σ₁ m₁ hh => ?_)⟩))
    · intro Qs
      obtain ⟨st1, tab1, hN1, ⟨zs, qs, hL1, hrk1, hpe⟩, g1, g2⟩ := hh
      obtain ⟨U, hUi, hdrop, hu⟩ := hU.get hx
      have hil := (List.getElem?_eq_some_iff.mp hUi).1
      have hUf := fine U (List.mem_of_getElem? hUi)
      have htk : (us.take (i + 1)).flatMap (mRows (pmAll pm0 us)) = (us.take i).flatMap (mRows (pmAll pm0 us)) ++ mRows (pmAll pm0 us) U := by
        rw [List.take_succ_eq_append_getElem hil, List.flatMap_append]
        rw [List.getElem?_eq_getElem hil] at hUi
        cases hUi; simp
      have hall : us.flatMap (mRows (pmAll pm0 us)) = (us.take (i + 1)).flatMap (mRows (pmAll pm0 us)) ++ (us.drop (i + 1)).flatMap (mRows (pmAll pm0 us)) := by
        rw [← List.flatMap_append, List.take_append_drop]
      have hbound : (src1 pm0 us ++ (us.take i).flatMap (mRows (pmAll pm0 us))).length + (mRows (pmAll pm0 us) U).length < 64 := by
        have : (srcRows us).length = _ := congrArg List.length (show srcRows us = src1 pm0 us ++ us.flatMap (mRows (pmAll pm0 us)) from rfl)
        rw [hall, htk, List.length_append, List.length_append, List.length_append] at this
        rw [List.length_append]; omega
      have hu1 := hu.leq st1.leq
      refine asg_name ?_
      cases U with
      | md M =>
        obtain ⟨a, e, p, ii, ixs, rfl, ha, he, hp, hi, hits⟩ := IsMd.ex hu1
        refine ex_cons (ex_if (ts_not (ts_value (ev_callB Oc k.isinstance_ boot_isinstance (evl_cons (ev_local (by walk_at "G") (evl_cons (ev_global Oc k.primN (evl_nil (b_isi_tup Oc ha k.primT ?_))))))))))
        refine ⟨false, rfl, fun _ => ?_, fun h => nomatch h⟩
        refine ex_cons (ex_expr (ev_meth1 (ev_local (by walk_at "G") ⟨"list.extend", m_extend hL1, evl_cons (ev_callG k.check_module Oc (evl_cons (ev_local (by walk_at "G") (evl_cons (ev_local (by walk_at "G") (evl_nil ?_))))))⟩)))
        have hb2 : (checkRows (pmAll pm0 us) M).length < 64 := Nat.lt_of_le_of_lt (Nat.le_add_left _ _) hbound
        refine (check_module_spec k Oc (dp hc hd (Nat.le_of_ble_eq_true rfl)) hu1 hUf hN1 tab1 hb2).mono fun y σ₂ hh => ?_
        obtain ⟨s2, tab2, D, ys, rs', rfl, hD0, hD, hrkD, hpeD⟩ := hh
        have hDL : D ≠ L := fun z => by rw [z, hL1] at hD0; cases hD0
        have hL2 := s2.chg _ _ hLT hL1
        have hl1 := hpe.length_eq
        have hl2 := hpeD.length_eq
        have hl3 : (mRows (pmAll pm0 us) (.md M)).length = (checkRows (pmAll pm0 us) M).length := rfl
        refine evl_nil (b_extend hL2 hD hDL (by rw [hrk1.length, hrkD.length]; omega) (ex_nil (ex_nil ⟨(st1.trans s2).atNew hL0, ?_, ?_, ⟨_, qs ++ rs', upd_self, ?_, ?_⟩, by walk_at "G", by walk_at "G"⟩)))
        · exact TabOk.set tab2 hL2
        · have s3 : Stp (fun b => b = L) σ₂ (upd σ₂ L (.list (zs ++ ys))) := Stp.at rfl hL2 rfl
          obtain ⟨nds, hNd, _⟩ := hN1.dct
          exact (Nms.keep hN1 s2.leq (by rw [s2.chg _ _ hNT hNd, hNd])).keep s3.leq (upd_old hNL rfl)
        · have s3 : Stp (fun b => b = L) σ₂ (upd σ₂ L (.list (zs ++ ys))) := Stp.at rfl hL2 rfl
          exact ((hrk1.leq s2.leq).app hrkD).leq s3.leq
        · rw [htk, ← List.append_assoc]
          exact hpe.append hpeD
      | pr X =>
        obtain ⟨P, pi, pr, rfl, hP⟩ := hu1
        obtain ⟨Pd, ho1, ho2⟩ := hP.obj
        refine ex_cons (ex_if (ts_not (ts_value (ev_callB Oc k.isinstance_ boot_isinstance (evl_cons (ev_local (by walk_at "G") (evl_cons (ev_global Oc k.primN (evl_nil (b_isi_inst Oc ho1 ho2 k.primY ?_))))))))))
        refine ⟨true, rfl, fun h => (nomatch h), fun _ => ?_⟩
        refine ex_nil (ex_nil ⟨st1, tab1, hN1, ⟨zs, qs, hL1, hrk1, ?_⟩, by walk_at "G", by walk_at "G"⟩)
        rw [htk]
        show qs.Perm (src1 pm0 us ++ ((us.take i).flatMap (mRows (pmAll pm0 us)) ++ []))
        rw [List.append_nil]; exact hpe
    · obtain ⟨st1, tab1, hN1, ⟨zs, qs, hL1, hrk1, hpe⟩, g1, g2⟩ := hh
      rw [hvl, List.take_length] at hpe
      have hpe : qs.Perm (srcRows us) := hpe
      refine ex_cons (ex_ret (ev_callG k.in_order Oc (evl_cons (ev_local g2 (evl_nil ?_)))))
      refine (in_order_spec k Oc (dp hc hd (Nat.le_of_ble_eq_true rfl)) hL1 hrk1 (by rw [hpe.length_eq]; exact h64) tab1).mono fun y σ₂ hh => ?_
      obtain ⟨s2, tab2, D, ys, rs', rfl, hD0, hD, hrkD, hpeD, hsd⟩ := hh
      have hDT : D ≠ k.tabP := fun z => by
        obtain ⟨o', ho'⟩ := tab1.at
        rw [z, ho'] at hD0; cases hD0
      refine ⟨st1.trans s2, tab2, D, ys, rs', rfl, ?_, hD, hrkD, hpeD.trans hpe, hsd⟩
      cases z : σ D with
      | none => rfl
      | some o => have := st1.chg _ _ hDT z; rw [hD0] at this; cases this
noncomputable def tables : List (List URow) := [[⟨["0"], "1"⟩, ⟨["1"], "0"⟩], [], [⟨["0", "1"], "1"⟩], [⟨["0"], "-"⟩], [⟨["0"], "0"⟩, ⟨["?"], "1"⟩], [⟨["r"], "1"⟩], [⟨["x"], "x"⟩, ⟨[], "0"⟩]]
noncomputable def IsTabs (σ : Store) : List AV → List (List URow) → Prop
  | [], [] => True
  | v :: vs, t :: ts => (∃ pr xs, v = .ref pr ∧ σ pr = some (.tup xs) ∧ IsURows σ xs t) ∧ IsTabs σ vs ts
  | _, _ => False
theorem IsTabs.get : ∀ {xs : List AV} {ts : List (List URow)}, IsTabs σ xs ts → ∀ {i : Nat} {t : List URow}, ts[i]? = some t → ∃ pr ys, xs[i]? = some (.ref pr) ∧ σ pr = some (.tup ys) ∧ IsURows σ ys t
  | [], [], _, _, _, e => by simp at e
  | _ :: _, _ :: _, h, 0, r, e => by
    obtain ⟨⟨pr, xs, rfl, h1, h2⟩, _⟩ := h
    cases e; exact ⟨pr, xs, rfl, h1, h2⟩
  | _ :: _, _ :: _, h, i + 1, r, e => by
    rw [List.getElem?_cons_succ] at e ⊢
    exact h.2.get e
theorem IsURows.snoc {v : AV} {r : URow} : ∀ {xs : List AV} {rs : List URow}, IsURows σ xs rs → IsURow σ v r → IsURows σ (xs ++ [v]) (rs ++ [r])
  | [], [], _, h => ⟨h, trivial⟩
  | _ :: _, _ :: _, h, h' => ⟨h.1, h.2.snoc h'⟩
theorem IsTabs.leq {σ' : Store} (hs : Leq σ σ') : ∀ {xs : List AV} {ts : List (List URow)}, IsTabs σ xs ts → IsTabs σ' xs ts
  | [], [], _ => trivial
  | _ :: _, _ :: _, ⟨⟨pr, xs, e, h1, h2⟩, h⟩ => ⟨⟨pr, xs, e, hs _ _ rfl h1, h2.leq hs⟩, h.leq hs⟩
theorem ev_strtup {es : List PySem.Expr} {k : Nat} {pos : Pos} {Q : AV → Store → Prop} (ss : List PySem.Str) (hz : ss.length ≤ small) (hl : ∀ Q : List AV → Store → Prop, Q (ss.map .str) σ → EvL prog w F σ m es Q) (h : ∀ a, σ a = none → Q (.ref a) (upd σ a (.tup (ss.map .str)))) : Ev prog w F σ m (.Tuple es k pos) Q :=
  ev_tuple (hl _ ⟨by rw [List.length_map]; exact hz, h⟩)
/-- one row of a table, made -/
theorem ev_urow {es : List PySem.Expr} {k k₁ k₂ k₃ : Nat} {p₁ p₂ p₃ pos : Pos} {Q : AV → Store → Prop} {o : PySem.Str} (ss : List PySem.Str) (hz : ss.length ≤ small) (hl : ∀ Q : List AV → Store → Prop, Q (ss.map .str) σ → EvL prog w F σ m es Q)
    (h : ∀ v σ', Stp (fun _ => False) σ σ' → IsURow σ' v ⟨ss, o⟩ → Q v σ')
    (h1 : starEach [.Tuple es k p₁, .Constant .none k₁ p₂, .Constant (.str o) k₂ p₃] F.env = (false, eval (.Tuple es k p₁) F.env) :: starEach [.Constant .none k₁ p₂, .Constant (.str o) k₂ p₃] F.env := by rfl) :
    Ev prog w F σ m (.Tuple [.Tuple es k p₁, .Constant .none k₁ p₂, .Constant (.str o) k₂ p₃] k₃ pos) Q := by
  refine ev_tuple (evl_cons (ev_strtup ss hz hl fun a ha => evl_cons (ev_none (evl_cons (ev_str (evl_nil ⟨Nat.le_of_ble_eq_true rfl, fun b hb => ?_⟩))))) h1)
  have s1 : Stp (fun _ => False) σ (upd σ a (.tup (ss.map .str))) := Stp.new ha
  exact h _ _ (s1.trans (Stp.new hb)) ⟨b, a, rfl, upd_self, upd_new hb upd_self⟩

theorem law_tables_spec (k : Kit K) (O : F.Ok K) (hd : 1 ≤ F.C.d) : CallF prog w F σ m k.law_tables.f [] fun r σ' => Stp (fun _ => False) σ σ' ∧ ∃ t xs, r = .ref t ∧ σ' t = some (.list xs) ∧ IsTabs σ' xs tables := by
  refine callK k.law_tables.fn O hd fun c Oc hc _ => ?_
  refine letQ ?_
  intro Qf
  refine ex_cons ?_
  refine ex_ret ?_
  refine ev_list ?_
  refine evl_cons ?_
  refine ev_tuple ?_
  refine evl_cons ?_
  refine ev_urow ["0"] (Nat.le_of_ble_eq_true rfl) (fun Q h => evl_cons (ev_str (evl_nil h))) ?_
  intro v1 σ₁ s1 h1
  refine evl_cons ?_
  refine ev_urow ["1"] (Nat.le_of_ble_eq_true rfl) (fun Q h => evl_cons (ev_str (evl_nil h))) ?_
  intro v2 σ₂ s2 h2
  refine evl_nil ⟨Nat.le_of_ble_eq_true rfl, fun t0 ht0 => ?_⟩
  refine evl_cons ?_
  refine ev_tuple ?_
  refine evl_nil ⟨Nat.le_of_ble_eq_true rfl, fun t1 ht1 => ?_⟩
  refine evl_cons ?_
  refine ev_tuple ?_
  refine evl_cons ?_
  refine ev_urow ["0", "1"] (Nat.le_of_ble_eq_true rfl) (fun Q h => evl_cons (ev_str (evl_cons (ev_str (evl_nil h))))) ?_
  intro v3 σ₃ s3 h3
  refine evl_nil ⟨Nat.le_of_ble_eq_true rfl, fun t2 ht2 => ?_⟩
  refine evl_cons ?_
  refine ev_tuple ?_
  refine evl_cons ?_
  refine ev_urow ["0"] (Nat.le_of_ble_eq_true rfl) (fun Q h => evl_cons (ev_str (evl_nil h))) ?_
  intro v4 σ₄ s4 h4
  refine evl_nil ⟨Nat.le_of_ble_eq_true rfl, fun t3 ht3 => ?_⟩
  refine evl_cons ?_
  refine ev_tuple ?_
  refine evl_cons ?_
  refine ev_urow ["0"] (Nat.le_of_ble_eq_true rfl) (fun Q h => evl_cons (ev_str (evl_nil h))) ?_
  intro v5 σ₅ s5 h5
  refine evl_cons ?_
  refine ev_urow ["?"] (Nat.le_of_ble_eq_true rfl) (fun Q h => evl_cons (ev_str (evl_nil h))) ?_
  intro v6 σ₆ s6 h6
  refine evl_nil ⟨Nat.le_of_ble_eq_true rfl, fun t4 ht4 => ?_⟩
  refine evl_cons ?_
  refine ev_tuple ?_
  refine evl_cons ?_
  refine ev_urow ["r"] (Nat.le_of_ble_eq_true rfl) (fun Q h => evl_cons (ev_str (evl_nil h))) ?_
  intro v7 σ₇ s7 h7
  refine evl_nil ⟨Nat.le_of_ble_eq_true rfl, fun t5 ht5 => ?_⟩
  refine evl_cons ?_
  refine ev_tuple ?_
  refine evl_cons ?_
  refine ev_urow ["x"] (Nat.le_of_ble_eq_true rfl) (fun Q h => evl_cons (ev_str (evl_nil h))) ?_
  intro v8 σ₈ s8 h8
  refine evl_cons ?_
  refine ev_urow [] (Nat.le_of_ble_eq_true rfl) (fun Q h => evl_nil h) ?_
  intro v9 σ₉ s9 h9
  refine evl_nil ⟨Nat.le_of_ble_eq_true rfl, fun t6 ht6 => ?_⟩
  refine evl_nil ⟨Nat.le_of_ble_eq_true rfl, fun t ht => ?_⟩
  have a6 := (Stp.new (S := fun _ => False) (o := .tup [v8, v9]) ht6).trans (Stp.new (o := .list [.ref t0, .ref t1, .ref t2, .ref t3, .ref t4, .ref t5, .ref t6]) ht)
  have b5 := (s8.trans s9).trans a6
  have a5 := (Stp.new (S := fun _ => False) (o := .tup [v7]) ht5).trans b5
  have b4 := s7.trans a5
  have a4 := (Stp.new (S := fun _ => False) (o := .tup [v5, v6]) ht4).trans b4
  have b3 := (s5.trans s6).trans a4
  have a3 := (Stp.new (S := fun _ => False) (o := .tup [v4]) ht3).trans b3
  have b2 := s4.trans a3
  have a2 := (Stp.new (S := fun _ => False) (o := .tup [v3]) ht2).trans b2
  have b1 := s3.trans a2
  have a1 := (Stp.new (S := fun _ => False) (o := .tup []) ht1).trans b1
  have a0 := (Stp.new (S := fun _ => False) (o := .tup [v1, v2]) ht0).trans a1
  refine ⟨(s1.trans s2).trans a0, t, _, rfl, upd_self, ?_⟩
  exact ⟨⟨t0, _, rfl, a1.leq _ _ rfl upd_self, h1.leq (s2.trans a0).leq, h2.leq a0.leq, trivial⟩, ⟨t1, _, rfl, b1.leq _ _ rfl upd_self, trivial⟩, ⟨t2, _, rfl, b2.leq _ _ rfl upd_self, h3.leq a2.leq, trivial⟩, ⟨t3, _, rfl, b3.leq _ _ rfl upd_self, h4.leq a3.leq, trivial⟩,
    ⟨t4, _, rfl, b4.leq _ _ rfl upd_self, h5.leq (s6.trans a4).leq, h6.leq a4.leq, trivial⟩, ⟨t5, _, rfl, b5.leq _ _ rfl upd_self, h7.leq a5.leq, trivial⟩, ⟨t6, _, rfl, upd_new ht upd_self, h8.leq (s9.trans a6).leq, h9.leq a6.leq, trivial⟩, trivial⟩
noncomputable def pKinds : List (List PySem.Str) := [[], ["no_rows"], ["row_size"], ["dash_in_combinational"], ["conflict"], ["edge_in_combinational"], ["row_size"]]
noncomputable def pDup (X : Prim) (x1 : PySem.Str) : List PySem.Str := if x1 = X.out then ["duplicate_port"] else []
noncomputable def pDue (X : Prim) (x1 : PySem.Str) (ks : List PySem.Str) : List Row := (pDup X x1 ++ ks).map fun kd => ⟨X.mark, kd, X.name⟩
theorem RowsA.leq {σ' : Store} (hs : Leq σ σ') {xs : List AV} {rs : List Row} (h : RowsA σ xs rs) : RowsA σ' xs rs := by
  induction h with
  | nil => exact .nil
  | cons e _ ih => exact .cons (hs _ _ rfl e) ih
theorem RowsA.app {xs ys : List AV} {rs qs : List Row} (h : RowsA σ xs rs) (h' : RowsA σ ys qs) : RowsA σ (xs ++ ys) (rs ++ qs) := by
  induction h with
  | nil => exact h'
  | cons e _ ih => exact .cons e ih

theorem law_primitive_faults_spec (k : Kit K) (O : F.Ok K) (hd : 1 ≤ F.C.d) {P pi pr : Addr} {X : Prim} (hP : IsPrim k σ P X pi pr) {x1 : PySem.Str} (hx1 : X.ins = [x1]) {i : Nat} {ks : List PySem.Str} (hks : pKinds[i]? = some ks) :
    CallF prog w F σ m k.law_primitive_faults.f [.ref P, .int (i : Int)] fun r σ' => Stp (fun _ => False) σ σ' ∧ ∃ l xs, r = .ref l ∧ σ' l = some (.list xs) ∧ RowsA σ' xs (pDue X x1 ks) := by
  have hi : i < 7 := (List.getElem?_eq_some_iff.mp hks).1
  refine callKC (PySem.Str.ofString "unit") k.law_primitive_faults.fn O hd fun c ca Oc hc => ?_
  refine letQ ?_
  intro Qf
  refine ex_cons ?_
  refine ex_assign ?_
  refine Tr.mono (Q := fun v σ₁ => Stp (fun _ => False) σ σ₁ ∧ ∃ lk, v = .ref lk ∧ σ₁ lk = some (.list (ks.map .str))) ?_ ?_
  · refine ev_sub ?_
    refine ev_list ?_
    refine evl_cons ?_
    refine ev_list ?_
    refine evl_nil ?_
    refine ⟨Nat.le_of_ble_eq_true rfl, fun l0 g0 => ?_⟩
    refine evl_cons ?_
    refine ev_list ?_
    refine evl_cons ?_
    refine ev_str ?_
    refine evl_nil ?_
    refine ⟨Nat.le_of_ble_eq_true rfl, fun l1 g1 => ?_⟩
    refine evl_cons ?_
    refine ev_list ?_
    refine evl_cons ?_
    refine ev_str ?_
    refine evl_nil ?_
    refine ⟨Nat.le_of_ble_eq_true rfl, fun l2 g2 => ?_⟩
    refine evl_cons ?_
    refine ev_list ?_
    refine evl_cons ?_
    refine ev_str ?_
    refine evl_nil ?_
    refine ⟨Nat.le_of_ble_eq_true rfl, fun l3 g3 => ?_⟩
    refine evl_cons ?_
    refine ev_list ?_
    refine evl_cons ?_
    refine ev_str ?_
    refine evl_nil ?_
    refine ⟨Nat.le_of_ble_eq_true rfl, fun l4 g4 => ?_⟩
    refine evl_cons ?_
    refine ev_list ?_
    refine evl_cons ?_
    refine ev_str ?_
    refine evl_nil ?_
    refine ⟨Nat.le_of_ble_eq_true rfl, fun l5 g5 => ?_⟩
    refine evl_cons ?_
    refine ev_list ?_
    refine evl_cons ?_
    refine ev_str ?_
    refine evl_nil ?_
    refine ⟨Nat.le_of_ble_eq_true rfl, fun l6 g6 => ?_⟩
    refine evl_nil ?_
    refine ⟨Nat.le_of_ble_eq_true rfl, fun lt gt => ?_⟩
    refine ev_local (by walk_at "G") ?_
    have st : Stp (fun _ => False) σ _ := (((((((Stp.new (o := .list []) g0).trans (Stp.new g1)).trans (Stp.new g2)).trans (Stp.new g3)).trans (Stp.new g4)).trans (Stp.new g5)).trans (Stp.new g6)).trans (Stp.new (o := .list [.ref l0, .ref l1, .ref l2, .ref l3, .ref l4, .ref l5, .ref l6]) gt)
    have h7 : i = 0 ∨ i = 1 ∨ i = 2 ∨ i = 3 ∨ i = 4 ∨ i = 5 ∨ i = 6 := by (first | lia | omega)
    rcases h7 with rfl | rfl | rfl | rfl | rfl | rfl | rfl <;> cases hks <;> refine subq_list upd_self (by decide) (by decide) rfl ⟨st, _, rfl, ?_⟩
    · exact upd_new gt (upd_new g6 (upd_new g5 (upd_new g4 (upd_new g3 (upd_new g2 (upd_new g1 upd_self))))))
    · exact upd_new gt (upd_new g6 (upd_new g5 (upd_new g4 (upd_new g3 (upd_new g2 upd_self)))))
    · exact upd_new gt (upd_new g6 (upd_new g5 (upd_new g4 (upd_new g3 upd_self))))
    · exact upd_new gt (upd_new g6 (upd_new g5 (upd_new g4 upd_self)))
    · exact upd_new gt (upd_new g6 (upd_new g5 upd_self))
    · exact upd_new gt (upd_new g6 upd_self)
    · exact upd_new gt upd_self
  rintro v σ₁ ⟨st1, lk, rfl, hlk⟩
  have hP1 := hP.leq st1.leq
  have hkl : ks.length ≤ 1 := by
    have h7 : i = 0 ∨ i = 1 ∨ i = 2 ∨ i = 3 ∨ i = 4 ∨ i = 5 ∨ i = 6 := by (first | lia | omega)
    rcases h7 with rfl | rfl | rfl | rfl | rfl | rfl | rfl <;> cases hks <;> decide
  have hpl : (pDup X x1).length ≤ 1 := len_if (Nat.le_refl _) (Nat.zero_le _)
  refine ex_cons ?_
  refine ex_assign ?_
  refine Tr.mono (Q := fun v σ₂ => Stp (fun _ => False) σ₁ σ₂ ∧ ∃ ld, v = .ref ld ∧ σ₂ ld = some (.list ((pDup X x1).map .str))) ?_ ?_
  · refine ev_ifexp (ts_cmp (ev_pattr (pi := pi) (pr := pr) (X := X) (P := P) k Oc (by decide) rfl rfl (ev_cell (by walk_at "G") ⟨rfl, hP1, ?_⟩)))
    refine ev_tuple (evl_cons (ev_pattr (pi := pi) (pr := pr) (X := X) (P := P) k Oc (by decide) rfl rfl (ev_cell (by walk_at "G") ⟨rfl, hP1, ?_⟩)))
    refine evl_nil ⟨Nat.le_of_ble_eq_true rfl, fun t ht => ?_⟩
    have hin : σ₁ pi = some (.tup [.str x1]) := by rw [hP1.ins, hx1]; rfl
    refine cmp_eq_tup Oc (upd_new ht hin) upd_self (by simp [eqA]) ?_
    have hb : ((List.range (min [AV.str x1].length [AV.str X.out].length)).all (fun j => aEq ([AV.str x1].getD j .none) ([AV.str X.out].getD j .none)) && [AV.str x1].length == [AV.str X.out].length) = (x1 == X.out) := by
      show (aEq (AV.str x1) (AV.str X.out) && true && true) = (x1 == X.out)
      by_cases q : x1 = X.out
      · simp [aEq, eqA, q]
      · simp [aEq, eqA, q]
    rw [hb]
    have st2 : Stp (fun _ => False) σ₁ (upd σ₁ t (.tup [.str X.out])) := Stp.new ht
    refine ⟨fun h => ?_, fun h => ?_⟩
    · have e : x1 = X.out := by simpa using h
      refine ev_list (evl_cons (ev_str (evl_nil ⟨Nat.le_of_ble_eq_true rfl, fun l hl => ⟨st2.trans (Stp.new hl), l, rfl, ?_⟩⟩)))
      unfold pDup; rw [if_pos e]; exact upd_self
    · have e : ¬ x1 = X.out := by simpa using h
      refine ev_list (evl_nil ⟨Nat.le_of_ble_eq_true rfl, fun l hl => ⟨st2.trans (Stp.new hl), l, rfl, ?_⟩⟩)
      unfold pDup; rw [if_neg e]; exact upd_self
  rintro v σ₂ ⟨st2, ld, rfl, hld⟩
  have hlk2 := st2.chg _ _ (fun z => z) hlk
  refine ex_cons ?_
  refine ex_ret ?_
  refine ev_comp [(PySem.Str.ofString "unit", ca)] [(PySem.Str.ofString "unit", .ref P)] Oc (free_one (by walk_at "G")) ?_
  refine ev_bin (ev_local (by walk_at "G") (ev_local (by walk_at "G") (bin_add_list hld hlk2 (by rw [List.length_map, List.length_map]; unfold small; (first | lia | omega)) fun l hl => ?_)))
  have s3 := Stp.new (S := fun _ => False) (o := .list ((pDup X x1).map AV.str ++ ks.map AV.str)) hl
  have hP3 := ((hP1.leq st2.leq).leq s3.leq)
  refine ⟨l, _, rfl, .list upd_self, fun C mh₀ own₀ => cmp_inv (fun j ys σ' m' => Stp (fun _ => False) (upd σ₂ l (.list ((pDup X x1).map AV.str ++ ks.map AV.str))) σ' ∧ RowsA σ' ys (((pDup X x1 ++ ks).take j).map fun kd => ⟨X.mark, kd, X.name⟩) ∧ get "unit" m' = some (.ref P))
    ⟨Stp.refl _ _, by rw [List.take_zero]; exact .nil, rfl⟩ (fun j ys σ' m' hh => ⟨(hh.1.chg _ _ (fun z => z) upd_self).trans upd_self.symm, ?_⟩) (fun j x ys σ' m' hx hh => ?_) (fun ys σ' m' hh a ha => ?_)⟩
  · rw [hh.2.1.length, List.length_map, List.length_take, List.length_append]; unfold small; (first | lia | omega)
  · obtain ⟨s4, hr, g1⟩ := hh
    rw [← List.map_append] at hx
    have hj : j < (pDup X x1 ++ ks).length := by
      have := (List.getElem?_eq_some_iff.mp hx).1
      rwa [List.length_map] at this
    have hxe : x = .str (pDup X x1 ++ ks)[j] := by
      rw [List.getElem?_map, List.getElem?_eq_getElem hj] at hx
      cases hx; rfl
    subst hxe
    have hP4 := hP3.leq s4.leq
    refine asgc_name ?_
    refine ev_tuple ?_
    refine evl_cons (ev_pattr (pi := pi) (pr := pr) (X := X) (P := P) k (cfm_ok Oc rfl) (by decide) rfl rfl (evc_free (by walk_at "G") ⟨rfl, hP4, ?_⟩))
    refine evl_cons (evc_local (by walk_at "G") ?_)
    refine evl_cons (ev_pattr (pi := pi) (pr := pr) (X := X) (P := P) k (cfm_ok Oc rfl) (by decide) rfl rfl (evc_free (by walk_at "G") ⟨rfl, hP4, ?_⟩))
    refine evl_nil ⟨Nat.le_of_ble_eq_true rfl, fun t ht => ?_⟩
    have s5 : Stp (fun _ => False) σ' (upd σ' t (.tup [.int X.mark, .str (pDup X x1 ++ ks)[j], .str X.name])) := Stp.new ht
    refine ⟨s4.trans s5, ?_, by walk_at "G"⟩
    rw [List.take_succ_eq_append_getElem hj, List.map_append]
    exact RowsA.snoc (r := ⟨X.mark, _, X.name⟩) (hr.leq s5.leq) upd_self
  · obtain ⟨s4, hr, g1⟩ := hh
    rw [← List.map_append, List.length_map, List.take_length] at hr
    have s5 : Stp (fun _ => False) σ' (upd σ' a (.list ys)) := Stp.new ha
    exact ⟨(((st1.trans st2).trans s3).trans s4).trans s5, a, ys, rfl, upd_self, hr.leq s5.leq⟩
noncomputable def bw (ports : List PySem.Str) : It → Nat
  | .port _ n => if n ∈ ports then 1 else 2
  | .inst _ _ _ es => 1 + max es.length 1
noncomputable def bws (ports : List PySem.Str) (is : List It) : Nat := (is.map (bw ports)).sum
structure GenMd (M : Md) : Prop where
  ports : M.ports.length ≤ 3
  items : M.items.length ≤ 6
  bws : bws M.ports M.items ≤ 15
  wts : wts M.items ≤ 100
theorem bws_snoc (ps : List PySem.Str) (is : List It) (i : It) : bws ps (is ++ [i]) = bws ps is + bw ps i := by simp [bws]
theorem wts_snoc (is : List It) (i : It) : wts (is ++ [i]) = wts is + wt i := by simp [wts]
theorem bws_rev (ps : List PySem.Str) (is : List It) : bws ps is.reverse = bws ps is := by
  unfold bws
  exact ((List.reverse_perm is).map _).sum_nat
theorem wts_rev (is : List It) : wts is.reverse = wts is := by
  unfold wts
  exact ((List.reverse_perm is).map _).sum_nat
theorem IsIts.snoc {xs : List AV} {is : List It} {v : AV} {i : It} (h : IsIts σ xs is) (h' : IsIt σ v i) : IsIts σ (xs ++ [v]) (is ++ [i]) := by
  induction h with
  | nil => exact .cons h' .nil
  | cons g1 _ ih => exact .cons g1 ih
theorem IsIts.rev {xs : List AV} {is : List It} (h : IsIts σ xs is) : IsIts σ xs.reverse is.reverse := by
  induction h with
  | nil => exact .nil
  | cons g1 _ ih => rw [List.reverse_cons, List.reverse_cons]; exact ih.snoc g1
theorem pick_of {α : Type} (f : α → AV) (ss : List α) {i : Int} (h0 : 0 ≤ i) (h1 : i < ss.length) : ∃ s ∈ ss, (ss.map f)[i.toNat]? = some (f s) := by
  have h : i.toNat < ss.length := by (first | lia | omega)
  exact ⟨ss[i.toNat], List.getElem_mem h, by rw [List.getElem?_map, List.getElem?_eq_getElem h]; rfl⟩

structure Gm (Fa PL IL : Addr) (mark : Int) (name : PySem.Str) (m : Loc) : Prop where
  feed : get "feed" m = some (.ref Fa)
  mark : get "mark" m = some (.int mark)
  name : get "name" m = some (.str name)
  ports : get "ports" m = some (.ref PL)
  items : get "items" m = some (.ref IL)
theorem Gm.put {Fa PL IL : Addr} {mark : Int} {name : PySem.Str} {m : Loc} (h : Gm Fa PL IL mark name m) {x : PySem.Str} {v : AV} (hx : x ∉ ([PySem.Str.ofString "feed", PySem.Str.ofString "mark", PySem.Str.ofString "name", PySem.Str.ofString "ports", PySem.Str.ofString "items"] : List PySem.Str) := by decide) : Gm Fa PL IL mark name (Mine.put x v m) := by
  simp only [List.mem_cons, List.not_mem_nil, or_false, not_or] at hx
  obtain ⟨h1, h2, h3, h4, h5⟩ := hx
  exact ⟨get_put_ne (Ne.symm h1) h.feed, get_put_ne (Ne.symm h2) h.mark, get_put_ne (Ne.symm h3) h.name, get_put_ne (Ne.symm h4) h.ports, get_put_ne (Ne.symm h5) h.items⟩
structure Im (σ σ' : Store) (Fa Ca PL IL : Addr) (ports : List PySem.Str) (its : List It) : Prop where
  st : Stp (Fds Fa Ca) σ σ'
  fd : Fd σ' Fa Ca
  pl : σ' PL = some (.list (ports.map .str))
  il : ∃ xs, σ' IL = some (.list xs) ∧ IsIts σ' xs its
  ne : ¬ Fds Fa Ca PL ∧ ¬ Fds Fa Ca IL ∧ PL ≠ IL
  nw : σ IL = none
theorem Im.step {σ σ₁ σ₂ : Store} {Fa Ca PL IL : Addr} {ports : List PySem.Str} {its : List It} (h : Im σ σ₁ Fa Ca PL IL ports its) (s : Stp (Fds Fa Ca) σ₁ σ₂) (fd : Fd σ₂ Fa Ca) : Im σ σ₂ Fa Ca PL IL ports its := by
  obtain ⟨xs, h1, h2⟩ := h.il
  exact ⟨h.st.trans s, fd, s.chg _ _ h.ne.1 h.pl, ⟨xs, s.chg _ _ h.ne.2.1 h1, h2.leq s.leq⟩, h.ne, h.nw⟩
theorem Im.quiet {σ σ₁ σ₂ : Store} {Fa Ca PL IL : Addr} {ports : List PySem.Str} {its : List It} (h : Im σ σ₁ Fa Ca PL IL ports its) (s : Stp (fun _ => False) σ₁ σ₂) : Im σ σ₂ Fa Ca PL IL ports its :=
  h.step (s.weak fun _ z => z.elim) (h.fd.keep s (fun z => z) (fun z => z))
theorem Im.app {σ σ₁ : Store} {Fa Ca PL IL : Addr} {ports : List PySem.Str} {its : List It} {xs : List AV} {v : AV} {i : It} (h : Im σ σ₁ Fa Ca PL IL ports its) (hx : σ₁ IL = some (.list xs)) (hi : IsIts σ₁ xs its) (hv : IsIt σ₁ v i) : Im σ (upd σ₁ IL (.list (xs ++ [v]))) Fa Ca PL IL ports (its ++ [i]) := by
  have s : Stp (fun b => b = IL) σ₁ (upd σ₁ IL (.list (xs ++ [v]))) := Stp.at rfl hx rfl
  refine ⟨h.st.atNew h.nw, h.fd.keep s (fun z => h.ne.2.1 (.inl z.symm)) (fun z => h.ne.2.1 (.inr z.symm)), upd_old h.ne.2.2 h.pl, ⟨_, upd_self, (hi.leq s.leq).snoc (hv.leq s.leq)⟩, h.ne, h.nw⟩
theorem Fd.refs {Fa Ca : Addr} (h : Fd σ Fa Ca) : (∃ o, σ Fa = some o) ∧ ∃ o, σ Ca = some o := by
  obtain ⟨cs, cur, seed, e1, e2, r⟩ := h
  exact ⟨⟨_, e1⟩, _, e2⟩
theorem Fd.notNew {Fa Ca a : Addr} (h : Fd σ Fa Ca) (ha : σ a = none) : ¬ Fds Fa Ca a := by
  obtain ⟨⟨o, e1⟩, o', e2⟩ := h.refs
  rintro (rfl | rfl)
  · rw [ha] at e1; cases e1
  · rw [ha] at e2; cases e2
theorem Im.rev {σ σ₁ : Store} {Fa Ca PL IL : Addr} {ports : List PySem.Str} {its : List It} {xs : List AV} (h : Im σ σ₁ Fa Ca PL IL ports its) (hx : σ₁ IL = some (.list xs)) (hi : IsIts σ₁ xs its) : Im σ (upd σ₁ IL (.list xs.reverse)) Fa Ca PL IL ports its.reverse := by
  have s : Stp (fun b => b = IL) σ₁ (upd σ₁ IL (.list xs.reverse)) := Stp.at rfl hx rfl
  exact ⟨h.st.atNew h.nw, h.fd.keep s (fun z => h.ne.2.1 (.inl z.symm)) (fun z => h.ne.2.1 (.inr z.symm)), upd_old h.ne.2.2 h.pl, ⟨_, upd_self, (hi.leq s.leq).rev⟩, h.ne, h.nw⟩
theorem bws_ports {ps : List PySem.Str} : ∀ {is : List It}, (∀ it ∈ is, ∃ mk n, it = It.port mk n ∧ n ∈ ps) → bws ps is = is.length ∧ wts is = 0
  | [], _ => ⟨rfl, rfl⟩
  | i :: is, h => by
    obtain ⟨mk, n, rfl, hn⟩ := h i (.head _)
    obtain ⟨h1, h2⟩ := bws_ports fun it hit => h it (.tail _ hit)
    have e1 : bws ps (.port mk n :: is) = bw ps (.port mk n) + bws ps is := by simp [bws]
    have e2 : wts (.port mk n :: is) = wt (.port mk n) + wts is := by simp [wts]
    have e3 : bw ps (.port mk n) = 1 := if_pos hn
    have e4 : wt (.port mk n) = 0 := rfl
    rw [e1, e2, h1, h2, e3, e4, List.length_cons]
    (first | lia | omega)
theorem Im.other {σ σ₁ σ₂ : Store} {Fa Ca PL IL EL : Addr} {ports : List PySem.Str} {its : List It} (h : Im σ σ₁ Fa Ca PL IL ports its) (s : Stp (fun b => b = EL) σ₁ σ₂) (h0 : σ EL = none) (h1 : ¬ Fds Fa Ca EL) (h2 : EL ≠ PL) (h3 : EL ≠ IL) : Im σ σ₂ Fa Ca PL IL ports its := by
  obtain ⟨xs, g1, g2⟩ := h.il
  exact ⟨h.st.drop s (fun a e => by rw [e]; exact h0), h.fd.keep s (fun z => h1 (.inl z.symm)) (fun z => h1 (.inr z.symm)), s.chg _ _ (fun z => h2 z.symm) h.pl, ⟨xs, s.chg _ _ (fun z => h3 z.symm) g1, g2.leq s.leq⟩, h.ne, h.nw⟩
theorem Im.new {σ σ₁ : Store} {Fa Ca PL IL EL : Addr} {ports : List PySem.Str} {its : List It} (h : Im σ σ₁ Fa Ca PL IL ports its) (hE : σ₁ EL = none) : σ EL = none ∧ ¬ Fds Fa Ca EL ∧ EL ≠ PL ∧ EL ≠ IL := by
  obtain ⟨xs, g1, g2⟩ := h.il
  have hF := h.fd.notNew hE
  refine ⟨?_, hF, (fun z => by rw [z, h.pl] at hE; cases hE), (fun z => by rw [z, g1] at hE; cases hE)⟩
  cases z : σ EL with
  | none => rfl
  | some o => have := h.st.chg _ _ hF z; rw [hE] at this; cases this
theorem law_module_spec (k : Kit K) (O : F.Ok K) (hd : 2 ≤ F.C.d) {Fa Ca : Addr} (h : Fd σ Fa Ca) {mark : Int} {name : PySem.Str} : CallF prog w F σ m k.law_module.f [.ref Fa, .int mark, .str name] fun r σ' => Stp (Fds Fa Ca) σ σ' ∧ Fd σ' Fa Ca ∧ ∃ M : Md, IsMd σ' r M ∧ M.mark = mark ∧ M.name = name ∧ GenMd M := by
  have hsm : small = 1000 := rfl
  refine callKC (PySem.Str.ofString "feed") k.law_module.fn O (Nat.le_trans (Nat.le_of_ble_eq_true rfl) hd) fun c ca Oc hc => ?_
  refine letQ ?_
  intro Qf
  have hd1 : 1 ≤ c.C.d := by (first | lia | omega)
  refine ex_cons ?_
  refine ex_assign_comp [(PySem.Str.ofString "feed", ca)] [(PySem.Str.ofString "feed", .ref Fa)] Oc (free_one (by walk_at "G")) ?_
  refine ev_callTy Oc k.range_ boot_range (evl_cons (ev_callG k.law_pick Oc (evl_cons (ev_cell (by walk_at "G") (evl_cons (ev_int (evl_nil ?_)))))))
  refine (law_pick_spec k Oc hd1 h (by decide) (by decide)).mono ?_
  rintro _ σ₁ ⟨s1, fd1, n, rfl, n0, n1⟩
  obtain ⟨n, rfl⟩ := Int.eq_ofNat_of_zero_le n0
  refine evl_nil (t_range fun q hq => ?_)
  have sq : Stp (fun _ => False) σ₁ (upd σ₁ q (.rng 0 (n : Int))) := Stp.new hq
  have fdq := fd1.keep sq (fun z => z) (fun z => z)
  have hqF := fd1.notNew hq
  refine ⟨q, _, rfl, .rng upd_self (by (first | lia | omega)) (by (first | lia | omega)), fun C mh₀ own₀ => cmp_inv (fun j ys σ' m' => Stp (Fds Fa Ca) (upd σ₁ q (.rng 0 (n : Int))) σ' ∧ Fd σ' Fa Ca ∧ (∃ ss : List PySem.Str, ys = ss.map .str ∧ ss.length = j) ∧ j ≤ n ∧ get "feed" m' = some (.ref Fa))
    ⟨Stp.refl _ _, fdq, ⟨[], rfl, rfl⟩, Nat.zero_le _, rfl⟩ (fun j ys σ' m' hh => ⟨(hh.1.chg _ _ hqF upd_self).trans upd_self.symm, ?_⟩) (fun j x ys σ' m' hx hh => ?_) (fun ys σ' m' hh PL hPL => ?_)⟩
  · obtain ⟨_, _, ⟨ss, rfl, e⟩, hj, _⟩ := hh
    rw [List.length_map]; (first | lia | omega)
  · obtain ⟨s2, fd2, ⟨ss, rfl, e⟩, hj, g1⟩ := hh
    obtain ⟨hjn, rfl⟩ := rng_get hx
    refine asgc_name ?_
    refine ev_sub ?_
    refine ev_list (evl_cons (ev_str (evl_cons (ev_str (evl_cons (ev_str (evl_nil ⟨Nat.le_of_ble_eq_true rfl, fun t ht => ?_⟩)))))))
    have s3 : Stp (fun _ => False) σ' (upd σ' t (.list [.str "a", .str "b", .str "c"])) := Stp.new ht
    have htF := fd2.notNew ht
    refine ev_callG k.law_pick (cfm_ok Oc rfl) (evl_cons (evc_free (by walk_at "G") (evl_cons (ev_int (evl_nil ?_)))))
    refine (law_pick_spec k (cfm_ok Oc rfl) hd1 (fd2.keep s3 (fun z => z) (fun z => z)) (by decide) (by decide)).mono ?_
    rintro _ σ₃ ⟨s4, fd4, i, rfl, i0, i1⟩
    obtain ⟨x, hx1, hx2⟩ := pick_of AV.str ["a", "b", "c"] i0 i1
    refine subq_list (s4.chg _ _ htF upd_self) i0 (by (first | lia | omega)) hx2 ?_
    exact ⟨(s2.trans (s3.weak fun _ z => z.elim)).trans s4, fd4, ⟨ss ++ [x], by simp, by simp [e]⟩, hjn, by walk_at "G"⟩
  obtain ⟨s2, fd2, ⟨ports, rfl, hpl⟩, hj, g1⟩ := hh
  have hpl : ports.length ≤ 3 := by
    rw [hpl]; simp; (first | lia | omega)
  have sA := ((s1.trans (sq.weak fun _ z => z.elim)).trans s2)
  have hPLF := fd2.notNew hPL
  have sB : Stp (fun _ => False) σ' (upd σ' PL (.list (ports.map .str))) := Stp.new hPL
  refine ex_cons ?_
  refine ex_assign (ev_list (evl_nil ⟨Nat.le_of_ble_eq_true rfl, fun IL hIL => ?_⟩))
  have hILF := (fd2.keep sB (fun z => z) (fun z => z)).notNew hIL
  have sC := Stp.new (S := fun _ => False) (o := .list []) hIL
  have hIL0 : σ IL = none := by
    cases z : σ IL with
    | none => rfl
    | some o => have := (sA.trans (sB.weak fun _ z => z.elim)).chg _ _ hILF z; rw [hIL] at this; cases this
  have hPI : PL ≠ IL := ne_of upd_self hIL
  have im0 : Im σ (upd (upd σ' PL (.list (ports.map .str))) IL (.list [])) Fa Ca PL IL ports [] :=
    ⟨(sA.trans (sB.weak fun _ z => z.elim)).trans (sC.weak fun _ z => z.elim), (fd2.keep sB (fun z => z) (fun z => z)).keep sC (fun z => z) (fun z => z), upd_old hPI upd_self, ⟨[], upd_self, .nil⟩, ⟨hPLF, hILF, hPI⟩, hIL0⟩
  have gm0 : Gm Fa PL IL mark name (put "items" (.ref IL) (put "ports" (.ref PL) ([PySem.Str.ofString "feed", PySem.Str.ofString "mark", PySem.Str.ofString "name"].zip [AV.ref Fa, .int mark, .str name]))) := ⟨by walk_at "G", by walk_at "G", by walk_at "G", by walk_at "G", by walk_at "G"⟩
  refine ex_cons (ex_for Oc (ev_local gm0.ports ⟨PL, _, rfl, .list im0.pl, for_inv (fun j σ' m' => (∃ its, Im σ σ' Fa Ca PL IL ports its ∧ (∀ it ∈ its, ∃ mk n, it = It.port mk n ∧ n ∈ ports) ∧ its.length ≤ j) ∧ Gm Fa PL IL mark name m')
    ⟨⟨[], im0, (by intro _ h; cases h), Nat.le_refl _⟩, gm0⟩ (fun j σ' m' hh => by obtain ⟨⟨its, im, _⟩, _⟩ := hh; rw [im.pl, im0.pl]) (fun j x σ' m' hx hh => ?_) (fun σ' m' hh => ?_)⟩))
  · intro Qs
    obtain ⟨⟨its, im, hits, hil⟩, gm⟩ := hh
    have hj : j < ports.length := by
      have := (List.getElem?_eq_some_iff.mp hx).1
      simpa using this
    have hxe : x = .str ports[j] := by
      rw [List.getElem?_map, List.getElem?_eq_getElem hj] at hx
      cases hx; rfl
    subst hxe
    obtain ⟨xs, hI, hIt⟩ := im.il
    have hxl := hIt.length
    refine asg_name ?_
    have gm' := gm.put (x := PySem.Str.ofString "port") (v := .str ports[j])
    refine ex_cons (ex_if (Tr.mono (Q := fun b σ₁ => Im σ σ₁ Fa Ca PL IL ports its) ?_ ?_))
    · refine ts_and (ts_cmp (ev_local (by walk_at "G") (ev_comp [] [] Oc free_none ?_)))
      refine ev_local gm'.items ⟨IL, xs, rfl, .list hI, fun C mh₀ own₀ => cmp_inv (fun i ys σ₂ m₂ => Stp (fun _ => False) σ' σ₂ ∧ (∃ ss : List PySem.Str, ys = ss.map .str ∧ ss.length = i) ∧ i ≤ its.length) ⟨Stp.refl _ _, ⟨[], rfl, rfl⟩, Nat.zero_le _⟩ (fun i ys σ₂ m₂ hh => ⟨(hh.1.chg _ _ (fun z => z) hI).trans hI.symm, ?_⟩) (fun i x ys σ₂ m₂ hx hh => ?_) (fun ys σ₂ m₂ hh l hl => ?_)⟩
      · obtain ⟨_, ⟨ss, rfl, e⟩, hi⟩ := hh
        rw [List.length_map]; (first | lia | omega)
      · obtain ⟨s, ⟨ss, rfl, e⟩, hi⟩ := hh
        obtain ⟨it, hdr, hit⟩ := hIt.get hx
        have hil2 := (List.getElem?_eq_some_iff.mp hx).1
        have hmem : it ∈ its := List.mem_of_mem_drop (by rw [hdr]; exact .head _)
        obtain ⟨mk, nn, rfl, _⟩ := hits it hmem
        cases hit with
        | port g =>
          refine asgc_name ?_
          refine ev_sub (evc_local (by walk_at "G") (ev_int <| subq_tup (s.leq _ _ rfl g) (by decide) (by decide) (by rfl) ?_))
          exact ⟨s, ⟨ss ++ [nn], by simp, by simp [e]⟩, by (first | lia | omega)⟩
      · obtain ⟨s, ⟨ss, rfl, e⟩, hi⟩ := hh
        refine cmp_notin_list upd_self (eqA_strs _ (.inl ⟨_, rfl⟩) _) ?_
        have im2 := (im.quiet s).quiet (Stp.new (o := .list (ss.map .str)) hl)
        refine ⟨fun _ => ?_, fun _ => im2⟩
        refine ts_cmp (ev_callG k.law_pick Oc (evl_cons (ev_cell gm'.feed (evl_cons (ev_int (evl_nil ?_))))))
        refine (law_pick_spec k Oc hd1 im2.fd (by decide) (by decide)).mono ?_
        rintro _ σ₃ ⟨s3, fd3, i, rfl, _, _⟩
        exact ev_int (cmp_lt_int (im2.step s3 fd3))
    · rintro b σ₁ im1
      refine ⟨fun _ => ?_, fun _ => ex_nil (ex_nil ⟨⟨its, im1, hits, by (first | lia | omega)⟩, gm'⟩)⟩
      obtain ⟨xs1, hI1, hIt1⟩ := im1.il
      have hxl1 := hIt1.length
      refine ex_cons (ex_expr (ev_meth1 (ev_local gm'.items ⟨"list.append", m_append hI1, evl_cons (ev_callG k.law_port Oc ?_)⟩)))
      refine evl_cons (ev_bin (ev_bin (ev_local gm'.mark (ev_int (bin_add_int ?_)))))
      refine ev_callB Oc k.len_ boot_len (evl_cons (ev_local gm'.items (evl_nil (b_len_list hI1 (by (first | lia | omega)) (bin_add_int ?_)))))
      refine evl_cons (ev_local (by walk_at "G") (evl_nil ?_))
      refine (law_port_spec k Oc hd1).mono ?_
      rintro v σ₂ ⟨s2, hv⟩
      have im2 := im1.quiet s2
      have hI2 := s2.chg _ _ (fun z => z) hI1
      refine evl_nil (b_append hI2 (by (first | lia | omega)) (ex_nil (ex_nil ⟨⟨_, im2.app hI2 (hIt1.leq s2.leq) hv, ?_, by rw [List.length_append]; simp; (first | lia | omega)⟩, gm'⟩)))
      intro it hit
      rcases List.mem_append.mp hit with hit | hit
      · exact hits it hit
      · cases List.mem_singleton.mp hit
        exact ⟨_, _, rfl, List.getElem_mem hj⟩
  obtain ⟨⟨its0, imA, hits0, hil0⟩, gmA⟩ := hh
  rw [List.length_map] at hil0
  obtain ⟨hb0, hw0⟩ := bws_ports hits0
  have end5 : ∀ (σ₁ : Store) (m₁ : Loc) (its : List It), Im σ σ₁ Fa Ca PL IL ports its → Gm Fa PL IL mark name m₁ → its.length ≤ 6 → bws ports its ≤ 15 → wts its ≤ 100 → Ex prog w (c.fm (scOf (nth 61)) (some (PySem.Str.ofString "feed", ca))) σ₁ m₁ ((bodyOf (nth 61)).drop 5) fun fl σ' _ => Stp (Fds Fa Ca) σ σ' ∧ Fd σ' Fa Ca ∧ ∃ M : Md, IsMd σ' (retOf fl) M ∧ M.mark = mark ∧ M.name = name ∧ GenMd M := by
    intro σ₁ m₁ its im gm l1 l2 l3
    refine letQ ?_
    intro Qe
    obtain ⟨xs, hI, hIt⟩ := im.il
    have hxl := hIt.length
    refine ex_cons ?_
    refine ex_ret ?_
    refine ev_tuple ?_
    refine evl_cons (ev_str ?_)
    refine evl_cons (ev_local gm.mark ?_)
    refine evl_cons (ev_local gm.name ?_)
    refine evl_cons (ev_tuple (evl_nil ⟨Nat.zero_le _, fun e he => ?_⟩))
    refine evl_cons (ev_callTy Oc k.tuple_ boot_tuple (evl_cons (ev_local gm.ports (evl_nil (t_tuple_list (upd_new he im.pl) (by rw [List.length_map]; (first | lia | omega)) fun p hp => ?_)))))
    refine evl_cons (ev_callTy Oc k.tuple_ boot_tuple (evl_cons (ev_local gm.items (evl_nil (t_tuple_list (upd_new hp (upd_new he hI)) (by (first | lia | omega)) fun i hi => ?_)))))
    refine evl_cons (ev_str (evl_nil ⟨Nat.le_of_ble_eq_true rfl, fun a ha => ?_⟩))
    have t1 := Stp.new (S := fun _ => False) (o := .tup []) he
    have t2 := Stp.new (S := fun _ => False) (o := .tup (ports.map .str)) hp
    have t3 := Stp.new (S := fun _ => False) (o := .tup xs) hi
    have t4 := Stp.new (S := fun _ => False) (o := .tup [.str "module", .int mark, .str name, .ref e, .ref p, .ref i, .str "wire"]) ha
    have t := ((t1.trans t2).trans t3).trans t4
    exact ⟨im.st.trans (t.weak fun _ z => z.elim), im.fd.keep t (fun z => z) (fun z => z), ⟨mark, name, ports, its⟩, ⟨a, e, p, i, xs, rfl, upd_self, ((t2.trans t3).trans t4).leq _ _ rfl upd_self, (t3.trans t4).leq _ _ rfl upd_self, t4.leq _ _ rfl upd_self, hIt.leq t.leq⟩, rfl, rfl, hpl, l1, l2, l3⟩
  have end4 : ∀ (σ₁ : Store) (m₁ : Loc) (its : List It), Im σ σ₁ Fa Ca PL IL ports its → Gm Fa PL IL mark name m₁ → its.length ≤ 6 → bws ports its ≤ 15 → wts its ≤ 100 → Ex prog w (c.fm (scOf (nth 61)) (some (PySem.Str.ofString "feed", ca))) σ₁ m₁ ((bodyOf (nth 61)).drop 4) fun fl σ' _ => Stp (Fds Fa Ca) σ σ' ∧ Fd σ' Fa Ca ∧ ∃ M : Md, IsMd σ' (retOf fl) M ∧ M.mark = mark ∧ M.name = name ∧ GenMd M := by
    intro σ₁ m₁ its im gm l1 l2 l3
    refine letQ ?_
    intro Qe
    refine ex_cons (ex_if (ts_cmp (ev_callG k.law_pick Oc (evl_cons (ev_cell gm.feed (evl_cons (ev_int (evl_nil ?_))))))))
    refine (law_pick_spec k Oc hd1 im.fd (by decide) (by decide)).mono ?_
    rintro _ σ₂ ⟨s2, fd2, i, rfl, _, _⟩
    have im2 := im.step s2 fd2
    obtain ⟨xs, hI, hIt⟩ := im2.il
    have hxl := hIt.length
    refine ev_int (cmp_eq_int ⟨fun _ => ?_, fun _ => ex_nil (end5 σ₂ m₁ its im2 gm l1 l2 l3)⟩)
    refine ex_cons (ex_expr (ev_meth0 (ev_local gm.items ⟨"list.reverse", m_reverse hI, b_reverse hI (by (first | lia | omega)) (ex_nil ?_)⟩)))
    exact end5 _ m₁ its.reverse (im2.rev hI hIt) gm (by rw [List.length_reverse]; exact l1) (by rw [bws_rev]; exact l2) (by rw [wts_rev]; exact l3)
  refine ex_cons (ex_for Oc (ev_callTy Oc k.range_ boot_range (evl_cons (ev_callG k.law_pick Oc (evl_cons (ev_cell gmA.feed (evl_cons (ev_int (evl_nil ?_)))))))))
  refine (law_pick_spec k Oc hd1 imA.fd (by decide) (by decide)).mono ?_
  rintro _ σ₁ ⟨s1', fd1', tn, rfl, tn0, tn1⟩
  obtain ⟨tn, rfl⟩ := Int.eq_ofNat_of_zero_le tn0
  have imB := imA.step s1' fd1'
  refine evl_nil (t_range fun q2 hq2 => ?_)
  have imC := imB.quiet (Stp.new (o := .rng 0 (tn : Int)) hq2)
  refine ⟨q2, _, rfl, .rng upd_self (by (first | lia | omega)) (by (first | lia | omega)), for_inv (fun t σ' m' => (∃ its, Im σ σ' Fa Ca PL IL ports its ∧ bws ports its ≤ 3 + 4 * t ∧ its.length ≤ 3 + t ∧ wts its ≤ 6 * t) ∧ Gm Fa PL IL mark name m' ∧ t ≤ tn ∧ σ' q2 = some (.rng 0 (tn : Int)))
    ⟨⟨its0, imC, by (first | lia | omega), by (first | lia | omega), by (first | lia | omega)⟩, gmA, Nat.zero_le _, upd_self⟩ (fun t σ' m' hh => by rw [hh.2.2.2, upd_self]) (fun t x σ' m' hx hh => ?_) (fun σ' m' hh => ?_)⟩
  · intro Qs
    obtain ⟨⟨its, im, b1, b2, b3⟩, gm, ht, hq⟩ := hh
    obtain ⟨htn, rfl⟩ := rng_get hx
    refine asg_name ?_
    obtain ⟨xs, hI, hIt⟩ := im.il
    have hxl := hIt.length
    have gm1 := gm.put (x := PySem.Str.ofString "turn") (v := .int (t : Int))
    refine ex_cons (ex_assign (ev_bin (ev_bin (ev_local gm1.mark (ev_int (bin_add_int (ev_callB Oc k.len_ boot_len (evl_cons (ev_local gm1.items (evl_nil (b_len_list hI (by (first | lia | omega)) (bin_add_int ?_)))))))))))) 
    have gm2 := gm1.put (x := PySem.Str.ofString "spot") (v := .int (mark + 1 + xs.length))
    refine ex_cons (ex_assign (ev_callG k.law_pick Oc (evl_cons (ev_cell gm2.feed (evl_cons (ev_int (evl_nil ?_)))))))
    refine (law_pick_spec k Oc hd1 im.fd (by decide) (by decide)).mono ?_
    rintro _ σ₂ ⟨s2, fd2, so, rfl, _, _⟩
    have gm3 := gm2.put (x := PySem.Str.ofString "sort") (v := .int so)
    let H : Store → Prop := fun σ₅ => Im σ σ₅ Fa Ca PL IL ports its ∧ σ₅ q2 = some (.rng 0 (tn : Int)) ∧ σ₅ IL = some (.list xs) ∧ IsIts σ₅ xs its
    have Hs : ∀ {σ₅ σ₆ : Store}, H σ₅ → Stp (Fds Fa Ca) σ₅ σ₆ → Fd σ₆ Fa Ca → H σ₆ := fun h s fd => ⟨h.1.step s fd, s.leq _ _ rfl h.2.1, s.chg _ _ im.ne.2.1 h.2.2.1, h.2.2.2.leq s.leq⟩
    have Hq : ∀ {σ₅ σ₆ : Store}, H σ₅ → Stp (fun _ => False) σ₅ σ₆ → H σ₆ := fun h s => ⟨h.1.quiet s, s.leq _ _ rfl h.2.1, s.chg _ _ (fun z => z) h.2.2.1, h.2.2.2.leq s.leq⟩
    have H2 : H σ₂ := Hs ⟨im, hq, hI, hIt⟩ s2 fd2
    have app : ∀ (σ₃ : Store) (m₃ : Loc) (v : AV) (it : It), H σ₃ → Gm Fa PL IL mark name m₃ → IsIt σ₃ v it → bw ports it ≤ 4 → wt it ≤ 6 → (∃ its, Im σ (upd σ₃ IL (.list (xs ++ [v]))) Fa Ca PL IL ports its ∧ bws ports its ≤ 3 + 4 * (t + 1) ∧ its.length ≤ 3 + (t + 1) ∧ wts its ≤ 6 * (t + 1)) ∧ Gm Fa PL IL mark name m₃ ∧ t + 1 ≤ tn ∧ upd σ₃ IL (.list (xs ++ [v])) q2 = some (.rng 0 (tn : Int)) := by
      rintro σ₃ m₃ v it ⟨i1, i2, i3, i4⟩ g hv l1 l2
      refine ⟨⟨its ++ [it], i1.app i3 i4 hv, ?_, ?_, ?_⟩, g, htn, upd_old (fun z => by rw [z, i3] at i2; cases i2) i2⟩
      · rw [bws_snoc]; (first | lia | omega)
      · rw [List.length_append]; simp; (first | lia | omega)
      · rw [wts_snoc]; (first | lia | omega)
    refine ex_cons (ex_if (ts_cmp (ev_local (by walk_at "G") (ev_int (cmp_eq_int ⟨fun _ => ?_, fun _ => ?_⟩)))))
    · refine ex_cons (ex_expr (ev_meth1 (ev_local gm3.items ⟨"list.append", m_append H2.2.2.1, evl_cons (ev_callG k.law_port Oc (evl_cons (ev_local (by walk_at "G") (evl_cons (ev_sub ?_)))))⟩)))
      refine ev_list (evl_cons (ev_str (evl_cons (ev_str (evl_cons (ev_str (evl_nil ⟨Nat.le_of_ble_eq_true rfl, fun l hl => ?_⟩)))))))
      have s3 := Stp.new (S := fun _ => False) (o := .list [.str "a", .str "b", .str "c"]) hl
      have H3 := Hq H2 s3
      have hlF := H2.1.fd.notNew hl
      refine ev_callG k.law_pick Oc (evl_cons (ev_cell gm3.feed (evl_cons (ev_int (evl_nil ?_)))))
      refine (law_pick_spec k Oc hd1 H3.1.fd (by decide) (by decide)).mono ?_
      rintro _ σ₄ ⟨s4, fd4, i, rfl, i0, i1⟩
      obtain ⟨x, hx1, hx2⟩ := pick_of AV.str ["a", "b", "c"] i0 i1
      refine subq_list (s4.chg _ _ hlF upd_self) i0 (by (first | lia | omega)) hx2 (evl_nil ?_)
      refine (law_port_spec k Oc hd1).mono ?_
      rintro v σ₅ ⟨s5, hv⟩
      have H5 := Hq (Hs H3 s4 fd4) s5
      refine evl_nil (b_append H5.2.2.1 (by (first | lia | omega)) (ex_nil (ex_nil (app _ _ _ _ H5 gm3 hv ?_ (by show 0 ≤ 6; (first | lia | omega))))))
      show (if x ∈ ports then 1 else 2) ≤ 4
      split <;> (first | lia | omega)
    · refine ex_cons (ex_assign (ev_list (evl_nil ⟨Nat.le_of_ble_eq_true rfl, fun EL hEL => ?_⟩)))
      obtain ⟨e1, e2, e3, e4⟩ := H2.1.new hEL
      have s3 := Stp.new (S := fun _ => False) (o := .list []) hEL
      have H3 := Hq H2 s3
      have gm4 := gm3.put (x := PySem.Str.ofString "ends") (v := .ref EL)
      refine ex_cons (ex_for Oc (ev_callTy Oc k.range_ boot_range (evl_cons (ev_callG k.law_pick Oc (evl_cons (ev_cell gm4.feed (evl_cons (ev_int (evl_nil ?_)))))))))
      refine (law_pick_spec k Oc hd1 H3.1.fd (by decide) (by decide)).mono ?_
      rintro _ σ₄ ⟨s4, fd4, en, rfl, en0, en1⟩
      obtain ⟨en, rfl⟩ := Int.eq_ofNat_of_zero_le en0
      refine evl_nil (t_range fun q3 hq3 => ?_)
      have s5 := Stp.new (S := fun _ => False) (o := .rng 0 (en : Int)) hq3
      have H4 := Hq (Hs H3 s4 fd4) s5
      have hE4 := s5.chg _ _ (fun z => z) (s4.chg _ _ e2 upd_self)
      refine ⟨q3, _, rfl, .rng upd_self (by (first | lia | omega)) (by (first | lia | omega)), for_inv (fun j σ₅ m₅ => H σ₅ ∧ Gm Fa PL IL mark name m₅ ∧ (∃ es : List (Option PySem.Str), σ₅ EL = some (.list (es.map oS)) ∧ es.length = j) ∧ j ≤ en ∧ σ₅ q3 = some (.rng 0 (en : Int)) ∧ get "sort" m₅ = some (.int so) ∧ get "spot" m₅ = some (.int (mark + 1 + xs.length)) ∧ get "ends" m₅ = some (.ref EL))
        ⟨H4, gm4, ⟨[], hE4, rfl⟩, Nat.zero_le _, upd_self, by walk_at "G", by walk_at "G", by walk_at "G"⟩ (fun j σ₅ m₅ hh => by rw [hh.2.2.2.2.1, upd_self]) (fun j x σ₅ m₅ hx hh => ?_) (fun σ₅ m₅ hh => ?_)⟩
      · intro Qs
        obtain ⟨H5, gm5, ⟨es, hE5, hel⟩, hj, hq5, g1, g2, g3⟩ := hh
        obtain ⟨hjn, rfl⟩ := rng_get hx
        refine asg_name ?_
        have gm6 := gm5.put (x := PySem.Str.ofString "k") (v := .int (j : Int))
        refine ex_cons (ex_assign (Tr.mono (Q := fun v σ₆ => ∃ b, v = .bool b ∧ Stp (Fds Fa Ca) σ₅ σ₆ ∧ Fd σ₆ Fa Ca) ?_ ?_))
        · refine ev_or (ev_cmp (ev_local (by walk_at "G") (ev_int (cmp_lt_int ⟨_, rfl, fun _ => ⟨_, rfl, Stp.refl _ _, H5.1.fd⟩, fun _ => ?_⟩))))
          refine ev_and (ev_cmp (ev_local (by walk_at "G") (ev_int (cmp_eq_int ⟨_, rfl, fun _ => ?_, fun _ => ⟨_, rfl, Stp.refl _ _, H5.1.fd⟩⟩))))
          refine ev_cmp (ev_callG k.law_pick Oc (evl_cons (ev_cell gm6.feed (evl_cons (ev_int (evl_nil ?_))))))
          refine (law_pick_spec k Oc hd1 H5.1.fd (by decide) (by decide)).mono ?_
          rintro _ σ₆ ⟨s6, fd6, i, rfl, _, _⟩
          exact ev_int (cmp_eq_int ⟨_, rfl, s6, fd6⟩)
        rintro _ σ₆ ⟨b, rfl, s6, fd6⟩
        have gm7 := gm6.put (x := PySem.Str.ofString "named") (v := .bool b)
        have hE6 := s6.chg _ _ e2 hE5
        refine ex_cons (ex_expr (ev_meth1 (ev_local (by walk_at "G") ⟨"list.append", m_append hE6, evl_cons (Tr.mono (Q := fun v σ₇ => ∃ e : Option PySem.Str, v = oS e ∧ Stp (Fds Fa Ca) σ₆ σ₇ ∧ Fd σ₇ Fa Ca) ?_ ?_)⟩)))
        · refine ev_ifexp (ts_value (ev_local (by walk_at "G") ⟨b, rfl, fun _ => ?_, fun _ => ev_none ⟨none, rfl, Stp.refl _ _, fd6⟩⟩))
          refine ev_sub ?_
          refine ev_list (evl_cons (ev_str (evl_cons (ev_str (evl_cons (ev_str (evl_cons (ev_str (evl_nil ⟨Nat.le_of_ble_eq_true rfl, fun l hl => ?_⟩)))))))))
          have s7 := Stp.new (S := fun _ => False) (o := .list [.str "a", .str "b", .str "o", .str "z"]) hl
          have hlF := fd6.notNew hl
          refine ev_callG k.law_pick Oc (evl_cons (ev_cell gm7.feed (evl_cons (ev_int (evl_nil ?_)))))
          refine (law_pick_spec k Oc hd1 (fd6.keep s7 (fun z => z) (fun z => z)) (by decide) (by decide)).mono ?_
          rintro _ σ₈ ⟨s8, fd8, i, rfl, i0, i1⟩
          obtain ⟨x, hx1, hx2⟩ := pick_of AV.str ["a", "b", "o", "z"] i0 i1
          exact subq_list (s8.chg _ _ hlF upd_self) i0 (by (first | lia | omega)) hx2 ⟨some x, rfl, (s7.weak fun _ z => z.elim).trans s8, fd8⟩
        rintro _ σ₇ ⟨e, rfl, s7, fd7⟩
        have hE7 := s7.chg _ _ e2 hE6
        have H7 := Hs (Hs H5 s6 fd6) s7 fd7
        have s8 : Stp (fun b => b = EL) σ₇ (upd σ₇ EL (.list (es.map oS ++ [oS e]))) := Stp.at rfl hE7 rfl
        refine evl_nil (b_append hE7 (by rw [List.length_map]; (first | lia | omega)) (ex_nil ⟨⟨H7.1.other s8 e1 e2 e3 e4, s8.leq _ _ rfl H7.2.1, s8.chg _ _ (fun z => e4 z.symm) H7.2.2.1, H7.2.2.2.leq s8.leq⟩, gm7, ⟨es ++ [e], ?_, by simp [hel]⟩, hjn, s8.leq _ _ rfl (s7.leq _ _ rfl (s6.leq _ _ rfl hq5)), by walk_at "G", by walk_at "G", by walk_at "G"⟩))
        rw [upd_self, List.map_append]; rfl
      · obtain ⟨H5, gm5, ⟨es, hE5, hel⟩, hj, hq5, g1, g2, g3⟩ := hh
        have hel3 : es.length ≤ 3 := by rw [hel]; simp; (first | lia | omega)
        refine ex_cons (ex_assign (ev_sub ?_))
        refine ev_list (evl_cons (ev_str (evl_cons (ev_str (evl_cons (ev_str (evl_cons (ev_str (evl_nil ⟨Nat.le_of_ble_eq_true rfl, fun l hl => ?_⟩)))))))))
        have s7 := Stp.new (S := fun _ => False) (o := .list [.str "m", .str "k", .str "u", .str "w"]) hl
        have hlF := H5.1.fd.notNew hl
        have H6 := Hq H5 s7
        refine ev_callG k.law_pick Oc (evl_cons (ev_cell gm5.feed (evl_cons (ev_int (evl_nil ?_)))))
        refine (law_pick_spec k Oc hd1 H6.1.fd (by decide) (by decide)).mono ?_
        rintro _ σ₈ ⟨s8, fd8, i, rfl, i0, i1⟩
        obtain ⟨un, hx1, hx2⟩ := pick_of AV.str ["m", "k", "u", "w"] i0 i1
        refine subq_list (s8.chg _ _ hlF upd_self) i0 (by (first | lia | omega)) hx2 ?_
        have H8 := Hs H6 s8 fd8
        have hE8 := s8.chg _ _ e2 (s7.chg _ _ (fun z => z) hE5)
        have gm6 := gm5.put (x := PySem.Str.ofString "unit") (v := .str un)
        refine ex_cons (ex_expr (ev_meth1 (ev_local gm6.items ⟨"list.append", m_append H8.2.2.1, evl_cons (ev_callG k.law_instance Oc (evl_cons (ev_local (by walk_at "G") (evl_cons (ev_local (by walk_at "G") (evl_cons (ev_sub ?_)))))))⟩)))
        refine ev_list (evl_cons (ev_none (evl_cons (ev_str (evl_cons (ev_str (evl_nil ⟨Nat.le_of_ble_eq_true rfl, fun l2 hl2 => ?_⟩)))))))
        have s9 := Stp.new (S := fun _ => False) (o := .list [.none, .str "x", .str "a"]) hl2
        have hlF2 := H8.1.fd.notNew hl2
        have H9 := Hq H8 s9
        refine ev_callG k.law_pick Oc (evl_cons (ev_cell gm6.feed (evl_cons (ev_int (evl_nil ?_)))))
        refine (law_pick_spec k Oc hd1 H9.1.fd (by decide) (by decide)).mono ?_
        rintro _ σa ⟨sa, fda, i2, rfl, i20, i21⟩
        obtain ⟨nn, hy1, hy2⟩ := pick_of oS [none, some (PySem.Str.ofString "x"), some (PySem.Str.ofString "a")] i20 i21
        refine subq_list (sa.chg _ _ hlF2 upd_self) i20 (by (first | lia | omega)) hy2 (evl_cons (ev_local (by walk_at "G") (evl_nil ?_)))
        have Ha := Hs H9 sa fda
        have hEa := sa.chg _ _ e2 (s9.chg _ _ (fun z => z) hE8)
        refine (law_instance_spec k Oc hd1 hEa (by (first | lia | omega))).mono ?_
        rintro v σb ⟨sb, hv⟩
        have Hb := Hq Ha sb
        refine evl_nil (b_append Hb.2.2.1 (by (first | lia | omega)) (ex_nil (ex_nil (app _ _ _ _ Hb gm6 hv ?_ ?_))))
        · show 1 + max es.length 1 ≤ 4
          (first | lia | omega)
        · show es.length + 3 ≤ 6
          (first | lia | omega)
  · obtain ⟨⟨its, im, b1, b2, b3⟩, gm, ht, hq⟩ := hh
    have ht3 : ((List.range ((tn : Int)).toNat).map fun (i : Nat) => AV.int (i : Int)).length = tn := by simp
    refine end4 _ _ its im gm ?_ ?_ ?_ <;> simp at b1 b2 b3 ht <;> (first | lia | omega)
noncomputable def gRows (ports : List PySem.Str) : (PySem.Str → Option Bool) → List It → List Row
  | _, [] => []
  | em, i :: is => dRow em i ++ nRow ports i ++ gRows ports (dEm em i) is
noncomputable def lawRows (pm : PM) (M : Md) : List Row := gRows M.ports em0 M.items ++ (lRows (dEms em0 M.items) M.mark [] M.ports ++ M.items.flatMap (aRows pm))
theorem gRows_le (ports : List PySem.Str) : ∀ (is : List It) (em : PySem.Str → Option Bool), (gRows ports em is).length ≤ 2 * is.length
  | [], _ => Nat.le_refl _
  | i :: is, em => by
    have h1 := dRow_le em i
    have h2 := nRow_le ports i
    have h3 := gRows_le ports is (dEm em i)
    show (dRow em i ++ nRow ports i ++ gRows ports (dEm em i) is).length ≤ 2 * (is.length + 1)
    rw [List.length_append, List.length_append]; (first | lia | omega)
theorem lRows_le (em : PySem.Str → Option Bool) (mark : Int) : ∀ (xs seen : List PySem.Str), (lRows em mark seen xs).length ≤ xs.length
  | [], _ => Nat.le_refl _
  | x :: xs, seen => by
    have h1 := lRow_le em mark seen x
    have h3 := lRows_le em mark xs (seen ++ [x])
    show (lRow em mark seen x ++ lRows em mark (seen ++ [x]) xs).length ≤ xs.length + 1
    rw [List.length_append]; (first | lia | omega)
theorem aRows_wts (pm : PM) : ∀ is : List It, (is.flatMap (aRows pm)).length ≤ wts is
  | [] => Nat.le_refl _
  | i :: is => by
    have h1 := aRows_le pm i
    have h2 := aRows_wts pm is
    have e : wts (i :: is) = wt i + wts is := by simp [wts]
    rw [List.flatMap_cons, List.length_append, e]; (first | lia | omega)
theorem wt_le : ∀ {is : List It} {i : It}, i ∈ is → wt i ≤ wts is
  | j :: is, i, h => by
    have e : wts (j :: is) = wt j + wts is := by simp [wts]
    rcases List.mem_cons.mp h with rfl | h
    · (first | lia | omega)
    · have := wt_le h; (first | lia | omega)
theorem gRows_perm (ports : List PySem.Str) : ∀ (is : List It) (em : PySem.Str → Option Bool), (gRows ports em is).Perm (dRows em is ++ is.flatMap (nRow ports))
  | [], _ => .refl _
  | i :: is, em => by
    have ih := gRows_perm ports is (dEm em i)
    show (dRow em i ++ nRow ports i ++ gRows ports (dEm em i) is).Perm (dRow em i ++ dRows (dEm em i) is ++ (nRow ports i ++ is.flatMap (nRow ports)))
    rw [List.append_assoc, List.append_assoc]
    refine List.Perm.append_left _ ?_
    refine (List.Perm.append_left _ ih).trans ?_
    rw [← List.append_assoc, ← List.append_assoc]
    exact List.Perm.append_right _ List.perm_append_comm
theorem lawRows_perm (pm : PM) (M : Md) : (lawRows pm M).Perm (checkRows pm M) := by
  unfold lawRows checkRows
  refine ((gRows_perm M.ports M.items em0).append_right _).trans ?_
  rw [← List.append_assoc]
  refine List.Perm.append_right _ ?_
  rw [List.append_assoc, List.append_assoc]
  exact List.Perm.append_left _ List.perm_append_comm

theorem anyEq_oS (x : PySem.Str) : ∀ l : List (Option PySem.Str), anyEq (l.map oS) (.str x) = decide (some x ∈ l)
  | [] => rfl
  | y :: l => by
    have ih := anyEq_oS x l
    unfold anyEq at ih ⊢
    rw [List.map_cons, List.any_cons, ih]
    cases y with
    | none => simp [eqA, oS]
    | some y =>
      by_cases h : y = x
      · subst h; simp [eqA, oS]
      · simp [eqA, oS, h, Ne.symm h]
theorem eqA_oS (x : PySem.Str) (l : List (Option PySem.Str)) : ∀ y ∈ l.map oS, (eqA y (.str x)).isSome = true := by
  intro y hy
  obtain ⟨s, _, rfl⟩ := List.mem_map.mp hy
  cases s <;> rfl
theorem mem_somes (x : PySem.Str) (l : List (Option PySem.Str)) : x ∈ somes l ↔ some x ∈ l := by
  unfold somes
  rw [List.mem_filterMap]
  exact ⟨fun ⟨a, h, e⟩ => by cases e; exact h, fun h => ⟨_, h, rfl⟩⟩
theorem somes_nil (l : List (Option PySem.Str)) : (somes l).length = 0 ↔ ∀ e ∈ l, e = none := by
  unfold somes
  rw [List.length_eq_zero_iff, List.filterMap_eq_nil_iff]
  rfl
theorem eqNone (es : List (Option PySem.Str)) : ((es.map oS).length == (List.replicate es.length AV.none).length && (List.range (es.map oS).length).all fun j => aEq ((es.map oS).getD j .none) ((List.replicate es.length AV.none).getD j .none)) = decide ((somes es).length = 0) := by
  rw [Bool.eq_iff_iff]
  simp only [List.length_map, List.length_replicate, beq_self_eq_true, Bool.true_and, List.all_eq_true, List.mem_range, decide_eq_true_eq]
  rw [somes_nil]
  have key : ∀ j (hj : j < es.length), aEq ((es.map oS).getD j .none) ((List.replicate es.length AV.none).getD j .none) = true ↔ es[j] = none := by
    intro j hj
    rw [List.getD_eq_getElem?_getD, List.getD_eq_getElem?_getD, List.getElem?_map, List.getElem?_eq_getElem hj, List.getElem?_replicate, if_pos hj]
    cases es[j] with
    | none => simp [aEq, eqA, oS]
    | some x => simp [aEq, eqA, oS]
  constructor
  · intro h e he
    obtain ⟨j, hj, rfl⟩ := List.mem_iff_getElem.mp he
    exact (key j hj).mp (h j hj)
  · intro h j hj
    exact (key j hj).mpr (h _ (List.getElem_mem hj))

/-- the law's list of rows, under way -/
structure Tm (σ σ' : Store) (T : Addr) (rows : List Row) : Prop where
  st : Stp (fun _ => False) σ σ'
  il : ∃ xs, σ' T = some (.list xs) ∧ RowsA σ' xs rows
  nw : σ T = none
theorem Tm.quiet {σ σ₁ σ₂ : Store} {T : Addr} {rows : List Row} (h : Tm σ σ₁ T rows) (s : Stp (fun _ => False) σ₁ σ₂) : Tm σ σ₂ T rows := by
  obtain ⟨xs, h1, h2⟩ := h.il
  exact ⟨h.st.trans s, ⟨xs, s.chg _ _ (fun z => z) h1, h2.leq s.leq⟩, h.nw⟩
theorem Tm.app {σ σ₁ : Store} {T a : Addr} {rows : List Row} {xs : List AV} (h : Tm σ σ₁ T rows) (r : Row) (hx : σ₁ T = some (.list xs)) (hr : RowsA σ₁ xs rows) (ha : σ₁ a = none) : Tm σ (upd (upd σ₁ a (.tup [.int r.mark, .str r.kind, .str r.detail])) T (.list (xs ++ [.ref a]))) T (rows ++ [r]) := by
  have s1 : Stp (fun _ => False) σ₁ (upd σ₁ a (.tup [.int r.mark, .str r.kind, .str r.detail])) := Stp.new ha
  have s2 : Stp (fun b => b = T) _ (upd (upd σ₁ a (.tup [.int r.mark, .str r.kind, .str r.detail])) T (.list (xs ++ [.ref a]))) := Stp.at rfl (upd_new ha hx) rfl
  exact ⟨(h.st.trans s1).atNew h.nw, ⟨_, upd_self, ((hr.leq s1.leq).leq s2.leq).snoc (upd_old (fun z => by rw [z, hx] at ha; cases ha) upd_self)⟩, h.nw⟩
noncomputable def stOf (b : Bool) : AV := .str (if b then "port" else "inst")
noncomputable def Fst (σ : Store) (A : Addr) (em : PySem.Str → Option Bool) (n : Nat) : Prop :=
  ∃ es, σ A = some (.dict es) ∧ es.length ≤ n ∧ ∀ x, (get x es = none ∧ em x = none) ∨ ∃ b, get x es = some (stOf b) ∧ em x = some b
theorem Fst.keep {σ' : Store} {A : Addr} {em : PySem.Str → Option Bool} {n : Nat} (h : Fst σ A em n) (e : σ' A = σ A) : Fst σ' A em n := by
  obtain ⟨es, h1, h2, h3⟩ := h
  exact ⟨es, e.trans h1, h2, h3⟩
theorem Fst.more {A : Addr} {em : PySem.Str → Option Bool} {n n' : Nat} (h : Fst σ A em n) (hn : n ≤ n') : Fst σ A em n' := by
  obtain ⟨es, h1, h2, h3⟩ := h
  exact ⟨es, h1, Nat.le_trans h2 hn, h3⟩
theorem Fst.put {A : Addr} {em : PySem.Str → Option Bool} {n : Nat} {es : Loc} {x : PySem.Str} {b : Bool} (h : Fst σ A em n) (he : σ A = some (.dict es)) : Fst (upd σ A (.dict (Mine.put x (stOf b) es))) A (emPut em x b) (n + 1) := by
  obtain ⟨es', h1, h2, h3⟩ := h
  rw [he] at h1; cases h1
  refine ⟨_, upd_self, Nat.le_trans (put_length _ _ _) (by (first | lia | omega)), fun y => ?_⟩
  unfold emPut
  rw [get_put]
  by_cases q : y = x
  · rw [if_pos q, if_pos q]; exact .inr ⟨b, rfl, rfl⟩
  · rw [if_neg q, if_neg q]; exact h3 y
/-- the law's dictionary of first ports -/
noncomputable def FpL (σ : Store) (N : Addr) (pm : PM) (n : Nat) : Prop :=
  ∃ nds, σ N = some (.dict nds) ∧ nds.length ≤ n ∧ ∀ x, (get x nds = none ∧ pm x = none) ∨ ∃ la ps, get x nds = some (.ref la) ∧ pm x = some ps ∧ ps.length ≤ small ∧ σ la = some (.list (ps.map .str))
theorem FpL.keep {σ' : Store} {N : Addr} {pm : PM} {n : Nat} (h : FpL σ N pm n) (st : Stp (fun _ => False) σ σ') : FpL σ' N pm n := by
  obtain ⟨nds, h1, h2, h3⟩ := h
  refine ⟨nds, st.chg _ _ (fun z => z) h1, h2, fun x => ?_⟩
  rcases h3 x with h | ⟨la, ps, e1, e2, e3, e4⟩
  · exact .inl h
  · exact .inr ⟨la, ps, e1, e2, e3, st.chg _ _ (fun z => z) e4⟩
theorem cRows_none {mk : Int} {ps : List PySem.Str} {es : List (Option PySem.Str)} {i : Nat} (hi : i < es.length) (h : es[i] = none) : cRows mk ps (somes (es.take i)) (es.drop i) = cRows mk ps (somes (es.take (i + 1))) (es.drop (i + 1)) := by
  have e : somes (es.take (i + 1)) = somes (es.take i) := by rw [List.take_succ_eq_append_getElem hi, h]; unfold somes; rw [List.filterMap_append]; simp
  rw [List.drop_eq_getElem_cons hi, h, e]; rfl
theorem cRows_some {mk : Int} {ps : List PySem.Str} {es : List (Option PySem.Str)} {i : Nat} {x : PySem.Str} (hi : i < es.length) (h : es[i] = some x) : cRows mk ps (somes (es.take i)) (es.drop i) = cRow mk ps (somes (es.take i)) x ++ cRows mk ps (somes (es.take (i + 1))) (es.drop (i + 1)) := by
  have e : somes (es.take (i + 1)) = somes (es.take i) ++ [x] := by rw [List.take_succ_eq_append_getElem hi, h]; unfold somes; rw [List.filterMap_append]; simp
  rw [List.drop_eq_getElem_cons hi, h, e]; rfl
theorem lRow_snoc (em : PySem.Str → Option Bool) (mark : Int) {ports : List PySem.Str} {j : Nat} (hj : j < ports.length) : lRows em mark (ports.take j) (ports.drop j) = lRow em mark (ports.take j) ports[j] ++ lRows em mark (ports.take (j + 1)) (ports.drop (j + 1)) := by
  rw [List.drop_eq_getElem_cons hj, List.take_succ_eq_append_getElem hj]; rfl
set_option maxHeartbeats 1000000 in
theorem law_module_faults_spec (k : Kit K) (O : F.Ok K) (hd : 1 ≤ F.C.d) {v : AV} {N : Addr} {M : Md} {pm : PM} {n : Nat} (hM : IsMd σ v M) (hs : M.Small) (hN : FpL σ N pm n) :
    CallF prog w F σ m k.law_module_faults.f [v, .ref N] fun r σ' => Stp (fun _ => False) σ σ' ∧ ∃ l xs, r = .ref l ∧ σ' l = some (.list xs) ∧ RowsA σ' xs (lawRows pm M) := by
  obtain ⟨u, ue, up, ui, xs, rfl, hu, hue, hup, hui, hits⟩ := hM.ex
  have hs1 := hs.ports
  have hs2 := hs.items
  have hs3 := hs.wt
  have hsm : small = 1000 := rfl
  have hxl := hits.length
  have htot : (lawRows pm M).length ≤ 200 := by
    have h1 := gRows_le M.ports M.items em0
    have h2 := lRows_le (dEms em0 M.items) M.mark M.ports []
    have h3 := aRows_wts pm M.items
    unfold lawRows
    rw [List.length_append, List.length_append]; (first | lia | omega)
  refine callK k.law_module_faults.fn O (Nat.le_trans (Nat.le_of_ble_eq_true rfl) hd) fun c Oc hc _ => ?_
  refine letQ ?_
  intro Qf
  refine ex_cons (ex_assign (ev_list (evl_nil ⟨Nat.le_of_ble_eq_true rfl, fun T hT => ?_⟩)))
  refine ex_cons (ex_assign (ev_dict0 fun A hA => ?_))
  have hTA : T ≠ A := ne_of upd_self hA
  have hA0 : σ A = none := by rw [← hA]; exact (upd_old (Ne.symm hTA) rfl).symm
  have tm0 : Tm σ (upd (upd σ T (.list [])) A (.dict [])) T [] := ⟨((Stp.refl _ σ).atNew hT).atNew hA0, ⟨[], upd_old hTA upd_self, .nil⟩, hT⟩
  let G : Loc → Prop := fun m' => get "unit" m' = some (.ref u) ∧ get "first_ports" m' = some (.ref N) ∧ get "told" m' = some (.ref T) ∧ get "first" m' = some (.ref A)
  have Gput : ∀ {m' : Loc} {x : PySem.Str} {v : AV}, G m' → x ∉ ([PySem.Str.ofString "unit", PySem.Str.ofString "first_ports", PySem.Str.ofString "told", PySem.Str.ofString "first"] : List PySem.Str) → G (put x v m') := by
    rintro m' x v ⟨g1, g2, g3, g4⟩ hx
    simp only [List.mem_cons, List.not_mem_nil, or_false, not_or] at hx
    obtain ⟨h1, h2, h3, h4⟩ := hx
    exact ⟨get_put_ne (Ne.symm h1) g1, get_put_ne (Ne.symm h2) g2, get_put_ne (Ne.symm h3) g3, get_put_ne (Ne.symm h4) g4⟩
  have g0 : G (put "first" (.ref A) (put "told" (.ref T) ([PySem.Str.ofString "unit", PySem.Str.ofString "first_ports"].zip [AV.ref u, .ref N]))) := ⟨by walk_at "G", by walk_at "G", by walk_at "G", by walk_at "G"⟩
  -- the end
  have end5 : ∀ (σ₁ : Store) (m₁ : Loc), Tm σ σ₁ T (lawRows pm M) → G m₁ → Ex prog w (c.fm (scOf (nth 64)) none) σ₁ m₁ ((bodyOf (nth 64)).drop 5) fun fl σ' _ => Stp (fun _ => False) σ σ' ∧ ∃ l xs, retOf fl = .ref l ∧ σ' l = some (.list xs) ∧ RowsA σ' xs (lawRows pm M) := by
    intro σ₁ m₁ tm g
    refine letQ ?_
    intro Qe
    obtain ⟨zs, h1, h2⟩ := tm.il
    exact ex_cons (ex_ret (ev_local g.2.2.1 ⟨tm.st, T, zs, rfl, h1, h2⟩))
  -- the instances
  have end4 : ∀ (σ₁ : Store) (m₁ : Loc) (rows : List Row), Tm σ σ₁ T rows → G m₁ → rows ++ M.items.flatMap (aRows pm) = lawRows pm M → Ex prog w (c.fm (scOf (nth 64)) none) σ₁ m₁ ((bodyOf (nth 64)).drop 4) fun fl σ' _ => Stp (fun _ => False) σ σ' ∧ ∃ l xs, retOf fl = .ref l ∧ σ' l = some (.list xs) ∧ RowsA σ' xs (lawRows pm M) := by
    intro σ₁ m₁ rows tm g e
    refine letQ ?_
    intro Qe
    let I4 : Nat → Store → Loc → Prop := fun j σ' m' => (∃ rows, Tm σ σ' T rows ∧ rows ++ (M.items.drop j).flatMap (aRows pm) = lawRows pm M) ∧ G m'
    refine ex_cons (ex_for Oc (ev_sub (ev_local g.1 (ev_int <| subq_tup (tm.st.leq _ _ rfl hu) (by decide) (by decide) (by rfl) ?_))))
    refine ⟨ui, xs, rfl, .tup (tm.st.leq _ _ rfl hui), for_inv I4 ⟨⟨rows, tm, e⟩, g⟩ (fun j σ' m' hh => by obtain ⟨⟨_, tm', _⟩, _⟩ := hh; rw [tm'.st.leq _ _ rfl hui, tm.st.leq _ _ rfl hui]) (fun j x σ' m' hx hh => ?_) (fun σ' m' hh => ?_)⟩
    · intro Qs
      obtain ⟨⟨rows, tm, e⟩, g⟩ := hh
      obtain ⟨it, hdrop, hit⟩ := hits.get hx
      have hmem : it ∈ M.items := List.mem_of_mem_drop (by rw [hdrop]; exact .head _)
      rw [hdrop, List.flatMap_cons] at e
      have hrl : rows.length ≤ 200 := by
        have := congrArg List.length e
        rw [List.length_append] at this; (first | lia | omega)
      have g1 := Gput g (x := PySem.Str.ofString "item") (v := x) (by decide)
      refine asg_name ?_
      cases hit with
      | @port a mk nn h1 =>
        have h1' := tm.st.leq _ _ rfl h1
        refine ex_cons (ex_if (ts_and (ts_cmp (ev_sub (ev_local (by walk_at "G") (ev_int <| subq_tup h1' (by decide) (by decide) (by rfl) (ev_str (cmp_eq_str ⟨fun h => absurd h (by decide), fun _ => ?_⟩))))))))
        refine ⟨fun h => absurd h (by decide), fun _ => ?_⟩
        refine ex_cons (ex_if (ts_cmp (ev_sub (ev_local (by walk_at "G") (ev_int <| subq_tup h1' (by decide) (by decide) (by rfl) (ev_str (cmp_eq_str ⟨fun h => absurd h (by decide), fun _ => ?_⟩)))))))
        exact ex_nil (ex_nil (ex_nil ⟨⟨rows, tm, e⟩, g1⟩))
      | @inst a p q mk un nn ys es h1 h2 h3 h4 =>
        have hes : es.length + 3 ≤ 100 := Nat.le_trans (wt_le hmem) hs3
        have hyl := h4.length
        have h1' := tm.st.leq _ _ rfl h1
        obtain ⟨nds, hNd, hNl, hNe⟩ := id hN
        have hNd' := tm.st.chg _ _ (fun z => z) hNd
        obtain ⟨zs, hz1, hz2⟩ := tm.il
        refine ex_cons (ex_if (ts_and (ts_cmp (ev_sub (ev_local (by walk_at "G") (ev_int <| subq_tup h1' (by decide) (by decide) (by rfl) (ev_str (cmp_eq_str ⟨fun _ => ?_, fun h => absurd h (by decide)⟩))))))))
        refine ts_cmp (ev_sub (ev_local (by walk_at "G") (ev_int <| subq_tup h1' (by decide) (by decide) (by rfl) (ev_local g1.2.1 (cmp_notin_dict hNd' ⟨fun hin => ?_, fun hin => ?_⟩)))))
        · have hpm : pm un = none := by
            rcases hNe un with ⟨_, b⟩ | ⟨la, ps, a, _⟩
            · exact b
            · rw [a] at hin; cases hin
          refine ex_cons (ex_expr (ev_meth1 (ev_local g1.2.2.1 ⟨"list.append", m_append hz1, evl_cons (ev_tuple ?_)⟩)))
          refine evl_cons (ev_sub (ev_local (by walk_at "G") (ev_int <| subq_tup h1' (by decide) (by decide) (by rfl) ?_)))
          refine evl_cons (ev_str (evl_cons (ev_sub (ev_local (by walk_at "G") (ev_int <| subq_tup h1' (by decide) (by decide) (by rfl) (evl_nil ⟨Nat.le_of_ble_eq_true rfl, fun b hb => ?_⟩))))))
          refine evl_nil (b_append (upd_new hb hz1) (by rw [hz2.length]; (first | lia | omega)) (ex_nil (ex_nil ⟨⟨_, tm.app ⟨mk, "unknown_module", un⟩ hz1 hz2 hb, ?_⟩, g1⟩)))
          have : aRows pm (.inst mk un nn es) = [⟨mk, "unknown_module", un⟩] := by show iRows pm mk un es = _; unfold iRows; rw [hpm]
          rw [this] at e
          rw [← e]; simp
        · obtain ⟨la, ps, hla, hpm, hpsl, hlaL⟩ : ∃ la ps, get un nds = some (.ref la) ∧ pm un = some ps ∧ ps.length ≤ small ∧ σ la = some (.list (ps.map .str)) := by
            rcases hNe un with ⟨a, _⟩ | h
            · rw [a] at hin; cases hin
            · exact h
          have har : aRows pm (.inst mk un nn es) = cRows mk ps [] es ++ (if (somes es).length = 0 ∧ ps.length < es.length then [⟨mk, "too_many_ports", un⟩] else []) := by show iRows pm mk un es = _; unfold iRows; rw [hpm]
          rw [har] at e
          generalize htoo : (if (somes es).length = 0 ∧ ps.length < es.length then ([⟨mk, PySem.Str.ofString "too_many_ports", un⟩] : List Row) else []) = too at e
          have hrest : ∃ rest, rest = (M.items.drop (j + 1)).flatMap (aRows pm) := ⟨_, rfl⟩
          obtain ⟨rest, hrest⟩ := hrest
          rw [← hrest] at e
          refine ex_cons (ex_if (ts_cmp (ev_sub (ev_local (by walk_at "G") (ev_int <| subq_tup h1' (by decide) (by decide) (by rfl) (ev_str (cmp_eq_str ⟨fun _ => ?_, fun h => absurd h (by decide)⟩)))))))
          refine ex_cons (ex_assign (ev_sub (ev_local g1.2.1 (ev_sub (ev_local (by walk_at "G") (ev_int <| subq_tup h1' (by decide) (by decide) (by rfl) <| subq_dict hNd' hla ?_))))))
          have g2 := Gput g1 (x := PySem.Str.ofString "ports") (v := .ref la) (by decide)
          have h3' := tm.st.leq _ _ rfl h3
          have h4' := h4.leq tm.st.leq
          refine ex_cons ?_
          refine ex_assign_comp [] [] Oc free_none ?_
          refine ev_sub (ev_local (by walk_at "G") (ev_int <| subq_tup h1' (by decide) (by decide) (by rfl) ?_))
          refine ⟨q, ys, rfl, .tup h3', fun C mh₀ own₀ => cmp_inv (fun i zs σ₂ m₂ => Stp (fun _ => False) σ' σ₂ ∧ zs = (es.take i).map oS ∧ i ≤ es.length) ⟨Stp.refl _ _, by rw [List.take_zero]; rfl, Nat.zero_le _⟩ (fun i zs σ₂ m₂ hh => ⟨(hh.1.leq _ _ rfl h3').trans h3'.symm, by rw [hh.2.1, List.length_map, List.length_take]; (first | lia | omega)⟩) (fun i x zs σ₂ m₂ hx hh => ?_) (fun zs' σ₂ m₂ hh EL hEL => ?_)⟩
          · obtain ⟨s, rfl, hi⟩ := hh
            obtain ⟨e', a', o', mk', b', hd', rfl, ha', _⟩ := h4'.get hx
            have hil := (List.getElem?_eq_some_iff.mp hx).1
            refine asgc_name ?_
            refine ev_sub (evc_local (by walk_at "G") (ev_int <| subq_tup (s.leq _ _ rfl ha') (by decide) (by decide) (by rfl) ?_))
            refine ⟨s, ?_, by (first | lia | omega)⟩
            rw [somes_take es i e' hd', List.map_append]; rfl
          obtain ⟨s, hzs', _⟩ := hh
          rw [hyl, List.take_length] at hzs'
          subst hzs'
          have sE := Stp.new (S := fun _ => False) (o := .list (es.map oS)) hEL
          have tm2 := (tm.quiet s).quiet sE
          have hE := upd_self (σ := σ₂) (a := EL) (o := .list (es.map oS))
          have hET : EL ≠ T := fun z => by
            obtain ⟨ws, hw, _⟩ := (tm.quiet s).il
            rw [z, hw] at hEL; cases hEL
          have g3 := Gput g2 (x := PySem.Str.ofString "ends") (v := .ref EL) (by decide)
          generalize upd σ₂ EL (.list (es.map oS)) = σ₃ at tm2 hE
          refine ex_cons (ex_for Oc (ev_callTy Oc k.range_ boot_range (evl_cons (ev_callB Oc k.len_ boot_len (evl_cons (ev_local (by walk_at "G") (evl_nil (b_len_list hE (by rw [List.length_map]; (first | lia | omega)) (evl_nil (t_range fun q3 hq3 => ?_))))))))))
          have sq3 := Stp.new (S := fun _ => False) (o := .rng 0 ((es.map oS).length : Int)) hq3
          refine ⟨q3, _, rfl, .rng upd_self (by (first | lia | omega)) (by rw [List.length_map]; (first | lia | omega)), for_inv (fun i σ₄ m₄ => (∃ rows, Tm σ σ₄ T rows ∧ rows ++ ((cRows mk ps (somes (es.take i)) (es.drop i) ++ too) ++ rest) = lawRows pm M) ∧ G m₄ ∧ σ₄ EL = some (.list (es.map oS)) ∧ σ₄ q3 = some (.rng 0 ((es.map oS).length : Int)) ∧ get "item" m₄ = some (.ref a) ∧ get "ports" m₄ = some (.ref la) ∧ get "ends" m₄ = some (.ref EL))
            ⟨⟨rows, tm2.quiet sq3, e⟩, g3, sq3.chg _ _ (fun z => z) hE, upd_self, by walk_at "G", by walk_at "G", by walk_at "G"⟩ (fun i σ₄ m₄ hh => by rw [hh.2.2.2.1, upd_self]) (fun i x σ₄ m₄ hx hh => ?_) (fun σ₄ m₄ hh => ?_)⟩
          · intro Qs
            obtain ⟨⟨rows, tm, e⟩, g, hE, hq, n1, n2, n3⟩ := hh
            obtain ⟨hi, rfl⟩ := rng_get hx
            rw [List.length_map] at hi
            have hget : (es.map oS)[((i : Nat) : Int).toNat]? = some (oS es[i]) := by rw [Int.toNat_natCast, List.getElem?_map, List.getElem?_eq_getElem hi]; rfl
            have hrl : rows.length ≤ 200 := by
              have := congrArg List.length e
              rw [List.length_append] at this; (first | lia | omega)
            have h1' := tm.st.leq _ _ rfl h1
            have hla' := tm.st.chg _ _ (fun z => z) hlaL
            obtain ⟨zs, hz1, hz2⟩ := tm.il
            refine asg_name ?_
            have g4 := Gput g (x := PySem.Str.ofString "k") (v := .int (i : Int)) (by decide)
            have appC : ∀ (σ₅ : Store) (b : Addr) (zs : List AV) (kd x : PySem.Str), Tm σ σ₅ T rows → σ₅ T = some (.list zs) → RowsA σ₅ zs rows → σ₅ EL = some (.list (es.map oS)) → σ₅ q3 = some (.rng 0 ((es.map oS).length : Int)) → σ₅ b = none → cRows mk ps (somes (es.take i)) (es.drop i) = ⟨mk, kd, x⟩ :: cRows mk ps (somes (es.take (i + 1))) (es.drop (i + 1)) →
                (∃ rows, Tm σ (upd (upd σ₅ b (.tup [.int mk, .str kd, .str x])) T (.list (zs ++ [.ref b]))) T rows ∧ rows ++ ((cRows mk ps (somes (es.take (i + 1))) (es.drop (i + 1)) ++ too) ++ rest) = lawRows pm M) ∧ upd (upd σ₅ b (.tup [.int mk, .str kd, .str x])) T (.list (zs ++ [.ref b])) EL = some (.list (es.map oS)) ∧ upd (upd σ₅ b (.tup [.int mk, .str kd, .str x])) T (.list (zs ++ [.ref b])) q3 = some (.rng 0 ((es.map oS).length : Int)) := by
              intro σ₅ b zs kd x tm5 k1 k2 k3 k4 hb hc
              refine ⟨⟨_, tm5.app ⟨mk, kd, x⟩ k1 k2 hb, ?_⟩, upd_old hET (upd_new hb k3), upd_old (fun z => by rw [z, k1] at k4; cases k4) (upd_new hb k4)⟩
              rw [← e, hc]; simp
            generalize hen : es[i] = en at hget
            cases en with
            | none =>
              have hc := cRows_none (mk := mk) (ps := ps) hi hen
              refine ex_cons (ex_if (ts_and (ts_cmp (ev_sub (ev_local (by walk_at "G") (ev_local (by walk_at "G") <| subq_list hE (Int.natCast_nonneg _) (by (first | lia | omega)) hget (ev_none (cmp_isnot_none ⟨fun h => absurd h (by decide), fun _ => ?_⟩))))))))
              refine ⟨fun h => absurd h (by decide), fun _ => ?_⟩
              refine ex_cons (ex_if (ts_and (ts_cmp (ev_sub (ev_local (by walk_at "G") (ev_local (by walk_at "G") <| subq_list hE (Int.natCast_nonneg _) (by (first | lia | omega)) hget (ev_none (cmp_isnot_none ⟨fun h => absurd h (by decide), fun _ => ?_⟩))))))))
              refine ⟨fun h => absurd h (by decide), fun _ => ?_⟩
              refine ex_nil (ex_nil (ex_nil ⟨⟨rows, tm, ?_⟩, g4, hE, hq, by walk_at "G", by walk_at "G", by walk_at "G"⟩))
              rw [← e, hc]
            | some x =>
              have hc := cRows_some (mk := mk) (ps := ps) hi hen
              have hget : (es.map oS)[((i : Nat) : Int).toNat]? = some (.str x) := hget
              refine ex_cons (ex_if (ts_and (ts_cmp (ev_sub (ev_local (by walk_at "G") (ev_local (by walk_at "G") <| subq_list hE (Int.natCast_nonneg _) (by (first | lia | omega)) hget (ev_none (cmp_isnot_none ⟨fun _ => ?_, fun h => absurd h (show ¬ (true = false) by decide)⟩))))))))
              refine ts_cmp (ev_sub (ev_local (by walk_at "G") (ev_local (by walk_at "G") <| subq_list hE (Int.natCast_nonneg _) (by (first | lia | omega)) hget (ev_local (by walk_at "G") (cmp_notin_list hla' (eqA_strs _ (.inl ⟨_, rfl⟩) _) ?_)))))
              rw [anyEq_str]
              refine ⟨fun hin => ?_, fun hin => ?_⟩
              · have hne : x ∉ ps := by simpa using hin
                refine ex_cons (ex_expr (ev_meth1 (ev_local g4.2.2.1 ⟨"list.append", m_append hz1, evl_cons (ev_tuple ?_)⟩)))
                refine evl_cons (ev_sub (ev_local (by walk_at "G") (ev_int <| subq_tup h1' (by decide) (by decide) (by rfl) ?_)))
                refine evl_cons (ev_str (evl_cons (ev_sub (ev_local (by walk_at "G") (ev_local (by walk_at "G") <| subq_list hE (Int.natCast_nonneg _) (by (first | lia | omega)) hget (evl_nil ⟨Nat.le_of_ble_eq_true rfl, fun b hb => ?_⟩))))))
                refine evl_nil (b_append (upd_new hb hz1) (by rw [hz2.length]; (first | lia | omega)) (ex_nil (ex_nil ?_)))
                obtain ⟨r1, r2, r3⟩ := appC _ b zs "unknown_port" x tm hz1 hz2 hE hq hb (by rw [hc]; unfold cRow; rw [if_neg hne]; rfl)
                exact ⟨r1, g4, r2, r3, by walk_at "G", by walk_at "G", by walk_at "G"⟩
              · have hne : x ∈ ps := by simpa using hin
                refine ex_cons (ex_if (ts_and (ts_cmp (ev_sub (ev_local (by walk_at "G") (ev_local (by walk_at "G") <| subq_list hE (Int.natCast_nonneg _) (by (first | lia | omega)) hget (ev_none (cmp_isnot_none ⟨fun _ => ?_, fun h => absurd h (show ¬ (true = false) by decide)⟩))))))))
                refine ts_cmp (ev_sub (ev_local (by walk_at "G") (ev_local (by walk_at "G") <| subq_list hE (Int.natCast_nonneg _) (by (first | lia | omega)) hget (ev_slice (ev_local (by walk_at "G") (ev_local (by walk_at "G") ⟨EL, _, i, rfl, rfl, hE, by rw [List.length_map]; (first | lia | omega), fun cc hcc => ?_⟩))))))
                rw [← List.map_take]
                refine cmp_in_list upd_self (eqA_oS _ _) ?_
                rw [anyEq_oS]
                have sc := Stp.new (S := fun _ => False) (o := .list ((es.take i).map oS)) hcc
                have tm5 := tm.quiet sc
                have hE5 := sc.chg _ _ (fun z => z) hE
                have hq5 := sc.leq _ _ rfl hq
                have h15 := sc.leq _ _ rfl h1'
                obtain ⟨zs5, hz15, hz25⟩ := tm5.il
                generalize upd σ₄ cc (.list ((es.take i).map oS)) = σ₅ at *
                refine ⟨fun hin => ?_, fun hin => ?_⟩
                · have hse : x ∈ somes (es.take i) := (mem_somes _ _).mpr (by simpa using hin)
                  refine ex_cons (ex_expr (ev_meth1 (ev_local g4.2.2.1 ⟨"list.append", m_append hz15, evl_cons (ev_tuple ?_)⟩)))
                  refine evl_cons (ev_sub (ev_local (by walk_at "G") (ev_int <| subq_tup h15 (by decide) (by decide) (by rfl) ?_)))
                  refine evl_cons (ev_str (evl_cons (ev_sub (ev_local (by walk_at "G") (ev_local (by walk_at "G") <| subq_list hE5 (Int.natCast_nonneg _) (by (first | lia | omega)) hget (evl_nil ⟨Nat.le_of_ble_eq_true rfl, fun b hb => ?_⟩))))))
                  refine evl_nil (b_append (upd_new hb hz15) (by rw [hz25.length]; (first | lia | omega)) (ex_nil (ex_nil (ex_nil ?_))))
                  obtain ⟨r1, r2, r3⟩ := appC _ b zs5 "duplicate" x tm5 hz15 hz25 hE5 hq5 hb (by rw [hc]; unfold cRow; rw [if_pos hne, if_pos hse]; rfl)
                  exact ⟨r1, g4, r2, r3, by walk_at "G", by walk_at "G", by walk_at "G"⟩
                · have hse : x ∉ somes (es.take i) := fun h => by have := (mem_somes _ _).mp h; simp [this] at hin
                  refine ex_nil (ex_nil (ex_nil ⟨⟨rows, tm5, ?_⟩, g4, hE5, hq5, by walk_at "G", by walk_at "G", by walk_at "G"⟩))
                  have hcr : cRow mk ps (somes (es.take i)) x = [] := by unfold cRow; rw [if_pos hne, if_neg hse]
                  rw [hcr, List.nil_append] at hc
                  rw [← e, hc]
          · obtain ⟨⟨rows, tm, e⟩, g, hE, hq, n1, n2, n3⟩ := hh
            have e : rows ++ (too ++ rest) = lawRows pm M := by
              rw [← e, List.drop_eq_nil_of_le (by simp)]; rfl
            have hrl : rows.length ≤ 200 := by
              have := congrArg List.length e
              rw [List.length_append] at this; (first | lia | omega)
            have h1' := tm.st.leq _ _ rfl h1
            have hla' := tm.st.chg _ _ (fun z => z) hlaL
            refine ex_cons (ex_if (ts_and (ts_cmp (ev_local n3 (ev_bin (ev_list (evl_cons (ev_none (evl_nil ⟨Nat.le_of_ble_eq_true rfl, fun t ht => ?_⟩)))))))))
            have s1 := Stp.new (S := fun _ => False) (o := .list [.none]) ht
            have hE1 := s1.chg _ _ (fun z => z) hE
            refine ev_callB Oc k.len_ boot_len (evl_cons (ev_local n3 (evl_nil (b_len_list hE1 (by rw [List.length_map]; (first | lia | omega)) ?_))))
            rw [List.length_map]
            refine bin_mul_list1 upd_self (by (first | lia | omega)) fun d hd' => ?_
            have s2 := Stp.new (S := fun _ => False) (o := .list (List.replicate es.length .none)) hd'
            have s12 := s1.trans s2
            refine cmp_eq_list Oc (s2.chg _ _ (fun z => z) hE1) upd_self ?_ ?_
            · intro x hx y hy
              rw [List.eq_of_mem_replicate hy]
              obtain ⟨s, _, rfl⟩ := List.mem_map.mp hx
              cases s <;> rfl
            rw [eqNone]
            have tm5 := tm.quiet s12
            have hE5 := s12.chg _ _ (fun z => z) hE
            have h15 := s12.leq _ _ rfl h1'
            have hla5 := s12.chg _ _ (fun z => z) hla'
            obtain ⟨zs5, hz15, hz25⟩ := tm5.il
            generalize upd (upd σ₄ t (.list [.none])) d (.list (List.replicate es.length .none)) = σ₅ at *
            refine ⟨fun h0 => ?_, fun h0 => ?_⟩
            · have h0 : (somes es).length = 0 := by simpa using h0
              refine ts_cmp (ev_callB Oc k.len_ boot_len (evl_cons (ev_local n3 (evl_nil (b_len_list hE5 (by rw [List.length_map]; (first | lia | omega)) ?_)))))
              refine ev_callB Oc k.len_ boot_len (evl_cons (ev_local n2 (evl_nil (b_len_list hla5 (by rw [List.length_map]; (first | lia | omega)) ?_))))
              rw [List.length_map, List.length_map]
              refine cmp_gt_int ⟨fun h2 => ?_, fun h2 => ?_⟩
              · have h2 : ps.length < es.length := by simpa using h2
                rw [if_pos ⟨h0, h2⟩] at htoo
                refine ex_cons (ex_expr (ev_meth1 (ev_local g.2.2.1 ⟨"list.append", m_append hz15, evl_cons (ev_tuple ?_)⟩)))
                refine evl_cons (ev_sub (ev_local (by walk_at "G") (ev_int <| subq_tup h15 (by decide) (by decide) (by rfl) ?_)))
                refine evl_cons (ev_str (evl_cons (ev_sub (ev_local (by walk_at "G") (ev_int <| subq_tup h15 (by decide) (by decide) (by rfl) (evl_nil ⟨Nat.le_of_ble_eq_true rfl, fun b hb => ?_⟩))))))
                refine evl_nil (b_append (upd_new hb hz15) (by rw [hz25.length]; (first | lia | omega)) (ex_nil (ex_nil (ex_nil (ex_nil ⟨⟨_, tm5.app ⟨mk, "too_many_ports", un⟩ hz15 hz25 hb, ?_⟩, g⟩)))))
                rw [← e, ← htoo, hrest]; simp
              · have h2 : ¬ ps.length < es.length := by simpa using h2
                rw [if_neg (fun z => h2 z.2)] at htoo
                refine ex_nil (ex_nil (ex_nil (ex_nil ⟨⟨rows, tm5, ?_⟩, g⟩)))
                rw [← e, ← htoo, hrest]; simp
            · have h0 : ¬ (somes es).length = 0 := by simpa using h0
              rw [if_neg (fun z => h0 z.1)] at htoo
              refine ⟨fun h => absurd h (by decide), fun _ => ?_⟩
              refine ex_nil (ex_nil (ex_nil (ex_nil ⟨⟨rows, tm5, ?_⟩, g⟩)))
              rw [← e, ← htoo, hrest]; simp
    · obtain ⟨⟨rows, tm, e⟩, g⟩ := hh
      refine end5 σ' m' ?_ g
      rw [hxl, List.drop_length] at e
      have e : rows = lawRows pm M := by rw [← e]; simp
      rw [← e]; exact tm
  -- the ports
  have end3 : ∀ (σ₁ : Store) (m₁ : Loc) (rows : List Row), Tm σ σ₁ T rows → Fst σ₁ A (dEms em0 M.items) M.items.length → G m₁ → rows ++ (lRows (dEms em0 M.items) M.mark [] M.ports ++ M.items.flatMap (aRows pm)) = lawRows pm M → Ex prog w (c.fm (scOf (nth 64)) none) σ₁ m₁ ((bodyOf (nth 64)).drop 3) fun fl σ' _ => Stp (fun _ => False) σ σ' ∧ ∃ l xs, retOf fl = .ref l ∧ σ' l = some (.list xs) ∧ RowsA σ' xs (lawRows pm M) := by
    intro σ₁ m₁ rows tm fst g e
    refine letQ ?_
    intro Qe
    have hu1 := tm.st.leq _ _ rfl hu
    have hup1 := tm.st.leq _ _ rfl hup
    refine ex_cons (ex_for Oc (ev_callTy Oc k.range_ boot_range (evl_cons (ev_callB Oc k.len_ boot_len (evl_cons (ev_sub (ev_local g.1 (ev_int <| subq_tup hu1 (by decide) (by decide) (by rfl) ?_))))))))
    refine evl_nil (b_len_tup hup1 (by rw [List.length_map]; (first | lia | omega)) (evl_nil (t_range fun q hq => ?_)))
    have sq := Stp.new (S := fun _ => False) (o := .rng 0 ((M.ports.map AV.str).length : Int)) hq
    refine ⟨q, _, rfl, .rng upd_self (by (first | lia | omega)) (by rw [List.length_map]; (first | lia | omega)), for_inv (fun j σ' m' => (∃ rows, Tm σ σ' T rows ∧ rows ++ (lRows (dEms em0 M.items) M.mark (M.ports.take j) (M.ports.drop j) ++ M.items.flatMap (aRows pm)) = lawRows pm M) ∧ Fst σ' A (dEms em0 M.items) M.items.length ∧ G m' ∧ σ' q = some (.rng 0 ((M.ports.map AV.str).length : Int)))
      ⟨⟨rows, tm.quiet sq, e⟩, fst.keep (by obtain ⟨es, h, _⟩ := fst; exact upd_old (ne_of h hq) rfl), g, upd_self⟩ (fun j σ' m' hh => by rw [hh.2.2.2, upd_self]) (fun j x σ' m' hx hh => ?_) (fun σ' m' hh => ?_)⟩
    · intro Qs
      obtain ⟨⟨rows, tm, e⟩, fst, g, hq'⟩ := hh
      obtain ⟨hj, rfl⟩ := rng_get hx
      rw [List.length_map] at hj
      rw [lRow_snoc _ _ hj] at e
      have hrl : rows.length ≤ small := by
        have := congrArg List.length e
        rw [List.length_append] at this; (first | lia | omega)
      have hu1 := tm.st.leq _ _ rfl hu
      have hup1 := tm.st.leq _ _ rfl hup
      obtain ⟨es, hAd, _, hem⟩ := id fst
      refine asg_name ?_
      have g1 := Gput g (x := PySem.Str.ofString "k") (v := .int (j : Int)) (by decide)
      refine ex_cons (ex_assign (ev_sub (ev_sub (ev_local g1.1 (ev_int <| subq_tup hu1 (by decide) (by decide) (by rfl) ?_)))))
      refine ev_local (by walk_at "G") <| subq_tup hup1 (Int.natCast_nonneg _) (by (first | lia | omega)) (by rw [Int.toNat_natCast, List.getElem?_map, List.getElem?_eq_getElem hj]; rfl) ?_
      have g2 := Gput g1 (x := PySem.Str.ofString "port") (v := .str M.ports[j]) (by decide)
      -- a row, told
      have app : ∀ (σ₂ : Store) (a : Addr) (zs : List AV) (kd : PySem.Str), Tm σ σ₂ T rows → σ₂ T = some (.list zs) → RowsA σ₂ zs rows → σ₂ A = some (.dict es) → σ₂ q = some (.rng 0 ((M.ports.map AV.str).length : Int)) → σ₂ a = none → lRow (dEms em0 M.items) M.mark (M.ports.take j) M.ports[j] = [⟨M.mark, kd, M.ports[j]⟩] →
          (∃ rows, Tm σ (upd (upd σ₂ a (.tup [.int M.mark, .str kd, .str M.ports[j]])) T (.list (zs ++ [.ref a]))) T rows ∧ rows ++ (lRows (dEms em0 M.items) M.mark (M.ports.take (j + 1)) (M.ports.drop (j + 1)) ++ M.items.flatMap (aRows pm)) = lawRows pm M) ∧ Fst (upd (upd σ₂ a (.tup [.int M.mark, .str kd, .str M.ports[j]])) T (.list (zs ++ [.ref a]))) A (dEms em0 M.items) M.items.length ∧ upd (upd σ₂ a (.tup [.int M.mark, .str kd, .str M.ports[j]])) T (.list (zs ++ [.ref a])) q = some (.rng 0 ((M.ports.map AV.str).length : Int)) := by
        intro σ₂ a zs kd tm2 h1 h2 h3 h4 ha hl
        refine ⟨⟨_, tm2.app ⟨M.mark, kd, M.ports[j]⟩ h1 h2 ha, ?_⟩, fst.keep ?_, upd_old (fun z => by rw [z, h1] at h4; cases h4) (upd_new ha h4)⟩
        · rw [← e, hl]; simp
        · rw [hAd]; exact upd_old hTA.symm (upd_new ha h3)
      refine ex_cons (ex_if (ts_cmp (ev_local (by walk_at "G") (ev_slice_tup (ev_sub (ev_local g2.1 (ev_int <| subq_tup hu1 (by decide) (by decide) (by rfl) ?_)))))))
      refine ev_local (by walk_at "G") ⟨up, _, j, rfl, rfl, hup1, by rw [List.length_map]; exact hj, by rw [List.length_map]; (first | lia | omega), fun cc hcc => ?_⟩
      rw [← List.map_take]
      refine cmp_in_tup upd_self (eqA_strs _ (.inl ⟨_, rfl⟩) _) ?_
      rw [anyEq_str]
      have sc := Stp.new (S := fun _ => False) (o := .tup ((M.ports.take j).map .str)) hcc
      have tm2 := tm.quiet sc
      obtain ⟨zs, hz1, hz2⟩ := tm2.il
      have hA2 := sc.chg _ _ (fun z => z) hAd
      have hq2 := sc.leq _ _ rfl hq'
      have hu2 := sc.leq _ _ rfl hu1
      generalize upd σ' cc (.tup ((M.ports.take j).map .str)) = σ₂ at *
      refine ⟨fun hin => ?_, fun hin => ?_⟩
      · have hse : M.ports[j] ∈ M.ports.take j := by simpa using hin
        refine ex_cons (ex_expr (ev_meth1 (ev_local g2.2.2.1 ⟨"list.append", m_append hz1, evl_cons (ev_tuple ?_)⟩)))
        refine evl_cons (ev_sub (ev_local g2.1 (ev_int <| subq_tup hu2 (by decide) (by decide) (by rfl) ?_)))
        refine evl_cons (ev_str (evl_cons (ev_local (by walk_at "G") (evl_nil ⟨Nat.le_of_ble_eq_true rfl, fun a ha => ?_⟩))))
        refine evl_nil (b_append (upd_new ha hz1) (by rw [hz2.length]; exact hrl) (ex_nil (ex_nil ?_)))
        obtain ⟨r1, r2, r3⟩ := app σ₂ a zs "duplicate" tm2 hz1 hz2 hA2 hq2 ha (by unfold lRow; rw [if_pos hse])
        exact ⟨r1, r2, g2, r3⟩
      · have hse : M.ports[j] ∉ M.ports.take j := by simpa using hin
        refine ex_cons (ex_if (Tr.mono (Q := fun b σ₃ => b = decide (¬ dEms em0 M.items M.ports[j] = some true) ∧ σ₃ = σ₂) ?_ ?_))
        · refine ts_cmp (ev_meth1 (ev_local g2.2.2.2 ⟨"dict.get", m_get hA2, ?_⟩))
          refine evl_cons (ev_local (by walk_at "G") (evl_cons (ev_str (evl_nil (b_dget hA2 ?_)))))
          rcases hem M.ports[j] with ⟨e1, e2⟩ | ⟨b, e1, e2⟩
          · rw [e1, e2]
            exact ev_str (cmp_ne_str ⟨by decide, rfl⟩)
          · rw [e1, e2]
            cases b
            · exact ev_str (cmp_ne_str ⟨by decide, rfl⟩)
            · exact ev_str (cmp_ne_str ⟨by decide, rfl⟩)
        · rintro b σ₃ ⟨rfl, rfl⟩
          refine ⟨fun hb => ?_, fun hb => ?_⟩
          · have hb' : ¬ dEms em0 M.items M.ports[j] = some true := by simpa using hb
            refine ex_cons (ex_expr (ev_meth1 (ev_local g2.2.2.1 ⟨"list.append", m_append hz1, evl_cons (ev_tuple ?_)⟩)))
            refine evl_cons (ev_sub (ev_local g2.1 (ev_int <| subq_tup hu2 (by decide) (by decide) (by rfl) ?_)))
            refine evl_cons (ev_str (evl_cons (ev_local (by walk_at "G") (evl_nil ⟨Nat.le_of_ble_eq_true rfl, fun a ha => ?_⟩))))
            refine evl_nil (b_append (upd_new ha hz1) (by rw [hz2.length]; exact hrl) (ex_nil (ex_nil (ex_nil ?_))))
            obtain ⟨r1, r2, r3⟩ := app σ₃ a zs "port_not_declared" tm2 hz1 hz2 hA2 hq2 ha (by unfold lRow; rw [if_neg hse, if_neg hb'])
            exact ⟨r1, r2, g2, r3⟩
          · have hb' : dEms em0 M.items M.ports[j] = some true := by simpa using hb
            refine ex_nil (ex_nil (ex_nil ⟨⟨rows, tm2, ?_⟩, fst.keep (hA2.trans hAd.symm), g2, hq2⟩))
            have hl : lRow (dEms em0 M.items) M.mark (M.ports.take j) M.ports[j] = [] := by unfold lRow; rw [if_neg hse, if_pos hb']
            rw [hl] at e; exact e
    · obtain ⟨⟨rows, tm, e⟩, fst, g, hq'⟩ := hh
      refine end4 σ' m' rows tm g ?_
      rw [← e, List.drop_eq_nil_of_le (by simp)]; rfl
  let I1 : Nat → Store → Loc → Prop := fun j σ' m' => (∃ rows em, Tm σ σ' T rows ∧ Fst σ' A em j ∧ rows ++ (gRows M.ports em (M.items.drop j) ++ (lRows (dEms em0 M.items) M.mark [] M.ports ++ M.items.flatMap (aRows pm))) = lawRows pm M ∧ dEms em (M.items.drop j) = dEms em0 M.items) ∧ G m'
  refine ex_cons (ex_for Oc (ev_sub (ev_local g0.1 (ev_int <| subq_tup (tm0.st.leq _ _ rfl hu) (by decide) (by decide) (by rfl) ?_))))
  refine ⟨ui, xs, rfl, .tup (tm0.st.leq _ _ rfl hui), for_inv I1 ⟨⟨[], em0, tm0, ⟨[], upd_self, Nat.le_refl _, fun x => .inl ⟨rfl, rfl⟩⟩, rfl, rfl⟩, g0⟩ (fun j σ' m' hh => by obtain ⟨⟨_, _, tm, _⟩, _⟩ := hh; rw [tm.st.leq _ _ rfl hui, tm0.st.leq _ _ rfl hui]) (fun j x σ' m' hx hh => ?_) (fun σ' m' hh => ?_)⟩
  · intro Qs
    obtain ⟨⟨rows, em, tm, fst, e, e2⟩, g⟩ := hh
    obtain ⟨it, hdrop, hit⟩ := hits.get hx
    have hj : j < M.items.length := by
      have := (List.getElem?_eq_some_iff.mp hx).1
      (first | lia | omega)
    have hit' := hit.leq tm.st.leq
    rw [hdrop] at e e2
    have e : rows ++ ((dRow em it ++ nRow M.ports it ++ gRows M.ports (dEm em it) (M.items.drop (j + 1))) ++ (lRows (dEms em0 M.items) M.mark [] M.ports ++ M.items.flatMap (aRows pm))) = lawRows pm M := e
    have e2 : dEms (dEm em it) (M.items.drop (j + 1)) = dEms em0 M.items := e2
    have hrl : rows.length ≤ 200 := by
      have := congrArg List.length e
      rw [List.length_append] at this; (first | lia | omega)
    have hdl := dRow_le em it
    have g1 := Gput g (x := PySem.Str.ofString "item") (v := x) (by decide)
    refine asg_name ?_
    have stB : ∀ (σ₂ : Store) (m₂ : Loc), Tm σ σ₂ T (rows ++ dRow em it) → Fst σ₂ A (dEm em it) (j + 1) → G m₂ → get "item" m₂ = some x → Ex prog w (c.fm (scOf (nth 64)) none) σ₂ m₂ (match ((bodyOf (nth 64)).drop 2).head? with | some (.For _ _ b _ _) => b.drop 2 | _ => []) fun fl σ₃ m₃ => fl = .next ∧ I1 (j + 1) σ₃ m₃ := by
      intro σ₂ m₂ tm2 fst2 g2 gi
      refine letQ ?_
      intro Qe
      have hit2 := hit.leq tm2.st.leq
      cases hit2 with
      | @port a mk nn h1 =>
        obtain ⟨zs, hz1, hz2⟩ := tm2.il
        refine ex_cons (ex_if (ts_and (ts_cmp (ev_sub (ev_local gi (ev_int <| subq_tup h1 (by decide) (by decide) (by rfl) (ev_str (cmp_eq_str ⟨fun _ => ?_, fun h => absurd h (by decide)⟩))))))))
        refine ts_cmp (ev_sub (ev_local gi (ev_int <| subq_tup h1 (by decide) (by decide) (by rfl) (ev_sub (ev_local g2.1 (ev_int <| subq_tup (tm2.st.leq _ _ rfl hu) (by decide) (by decide) (by rfl) ?_))))))
        refine cmp_notin_tup (tm2.st.leq _ _ rfl hup) (eqA_strs _ (.inl ⟨_, rfl⟩) _) ?_
        rw [anyEq_str]
        refine ⟨fun hin => ?_, fun hin => ?_⟩
        · have hne : nn ∉ M.ports := by simpa using hin
          refine ex_cons (ex_expr (ev_meth1 (ev_local g2.2.2.1 ⟨"list.append", m_append hz1, evl_cons (ev_tuple ?_)⟩)))
          refine evl_cons (ev_sub (ev_local gi (ev_int <| subq_tup h1 (by decide) (by decide) (by rfl) ?_)))
          refine evl_cons (ev_str (evl_cons (ev_sub (ev_local gi (ev_int <| subq_tup h1 (by decide) (by decide) (by rfl) (evl_nil ⟨Nat.le_of_ble_eq_true rfl, fun b hb => ?_⟩))))))
          refine evl_nil (b_append (upd_new hb hz1) (by rw [hz2.length, List.length_append]; (first | lia | omega)) (ex_nil (ex_nil ⟨rfl, ⟨_, _, tm2.app ⟨mk, "port_not_listed", nn⟩ hz1 hz2 hb, fst2.keep ?_, ?_, e2⟩, g2⟩)))
          · obtain ⟨es, h, _⟩ := fst2
            rw [h]; exact upd_old hTA.symm (upd_new hb h)
          · have : nRow M.ports (.port mk nn) = [⟨mk, "port_not_listed", nn⟩] := if_neg hne
            rw [← e, this]; simp
        · have hne : nn ∈ M.ports := by simpa using hin
          refine ex_nil (ex_nil ⟨rfl, ⟨_, _, tm2, fst2, ?_, e2⟩, g2⟩)
          have : nRow M.ports (.port mk nn) = [] := if_pos hne
          rw [← e, this]; simp
      | @inst a p q mk un nn ys es h1 h2 h3 h4 =>
        refine ex_cons (ex_if (ts_and (ts_cmp (ev_sub (ev_local gi (ev_int <| subq_tup h1 (by decide) (by decide) (by rfl) (ev_str (cmp_eq_str ⟨fun h => absurd h (by decide), fun _ => ?_⟩))))))))
        refine ⟨fun h => absurd h (by decide), fun _ => ?_⟩
        refine ex_nil (ex_nil ⟨rfl, ⟨_, _, tm2, fst2, ?_, e2⟩, g2⟩)
        have : nRow M.ports (.inst mk un nn es) = [] := rfl
        rw [← e, this]; simp
    have stA : ∀ (a : Addr) (b : Bool) (mk : Int) (nn : PySem.Str) (tl : List AV) (m₂ : Loc), x = .ref a → σ' a = some (.tup (stOf b :: .int mk :: tl)) → dRow em it = (if (em nn).isSome then [⟨mk, "duplicate", nn⟩] else []) → dEm em it = (if (em nn).isSome then em else emPut em nn b) → G m₂ → get "item" m₂ = some x → get "name" m₂ = some (.str nn) →
        Ex prog w (c.fm (scOf (nth 64)) none) σ' m₂ (match ((bodyOf (nth 64)).drop 2).head? with | some (.For _ _ b _ _) => b.drop 1 | _ => []) fun fl σ₃ m₃ => fl = .next ∧ I1 (j + 1) σ₃ m₃ := by
      rintro a b mk nn tl m₂ rfl ha hdr hde g2 gi gn
      refine letQ ?_
      intro Qe
      obtain ⟨es, hAd, hel, hem⟩ := id fst
      obtain ⟨zs, hz1, hz2⟩ := tm.il
      refine ex_cons (ex_if (ts_cmp (ev_local gn (ev_local g2.2.2.2 (cmp_in_dict hAd ⟨fun hin => ?_, fun hin => ?_⟩)))))
      · have hsm : (em nn).isSome = true := by
          rcases hem nn with ⟨a, b⟩ | ⟨b, a, e⟩
          · rw [a] at hin; cases hin
          · rw [e]; rfl
        rw [if_pos hsm] at hdr hde
        refine ex_cons (ex_expr (ev_meth1 (ev_local g2.2.2.1 ⟨"list.append", m_append hz1, evl_cons (ev_tuple ?_)⟩)))
        refine evl_cons (ev_sub (ev_local gi (ev_int <| subq_tup ha (by decide) (by decide) (by rfl) ?_)))
        refine evl_cons (ev_str (evl_cons (ev_local gn (evl_nil ⟨Nat.le_of_ble_eq_true rfl, fun d hd => ?_⟩))))
        refine evl_nil (b_append (upd_new hd hz1) (by rw [hz2.length]; (first | lia | omega)) (ex_nil ?_))
        have tm2 := tm.app ⟨mk, "duplicate", nn⟩ hz1 hz2 hd
        rw [← hdr] at tm2
        refine stB _ m₂ tm2 ?_ g2 gi
        rw [hde]
        exact (fst.keep (by rw [hAd]; exact upd_old hTA.symm (upd_new hd hAd))).more (Nat.le_succ _)
      · have hsm : ¬ (em nn).isSome = true := by
          rcases hem nn with ⟨a, b⟩ | ⟨b, a, e⟩
          · rw [b]; exact Bool.false_ne_true
          · rw [a] at hin; cases hin
        rw [if_neg hsm] at hdr hde
        refine ex_cons (ex_if (ts_cmp (ev_local gn (ev_none (cmp_isnot_none ⟨fun _ => ?_, fun h => absurd h (show ¬ (true = false) by decide)⟩)))))
        refine ex_cons (ex_assign_sub (ev_sub (ev_local gi (ev_int <| subq_tup ha (by decide) (by decide) (by rfl) ?_))))
        refine ev_local g2.2.2.2 (ev_local gn (seti_dict hAd (by (first | lia | omega)) (ex_nil (ex_nil ?_))))
        have sA : Stp (fun b => b = A) σ' (upd σ' A (.dict (put nn (stOf b) es))) := Stp.at rfl hAd rfl
        refine stB _ m₂ ?_ ?_ g2 gi
        · rw [hdr, List.append_nil]
          exact ⟨tm.st.atNew hA0, ⟨zs, upd_old hTA hz1, hz2.leq sA.leq⟩, tm.nw⟩
        · rw [hde]; exact fst.put hAd
    cases hit' with
    | @port a mk nn h1 =>
      refine ex_cons (ex_assign (ev_ifexp (ts_cmp (ev_sub (ev_local (by walk_at "G") (ev_int <| subq_tup h1 (by decide) (by decide) (by rfl) (ev_str (cmp_eq_str ⟨fun _ => ?_, fun h => absurd h (by decide)⟩))))))))
      refine ev_sub (ev_local (by walk_at "G") (ev_int <| subq_tup h1 (by decide) (by decide) (by rfl) ?_))
      refine (stA a true mk nn _ _ rfl h1 rfl rfl (Gput g1 (by decide)) (by walk_at "G") (by walk_at "G")).mono ?_
      rintro fl σ₂ m₂ ⟨rfl, hI⟩; exact hI
    | @inst a p q mk un nn ys es h1 h2 h3 h4 =>
      refine ex_cons (ex_assign (ev_ifexp (ts_cmp (ev_sub (ev_local (by walk_at "G") (ev_int <| subq_tup h1 (by decide) (by decide) (by rfl) (ev_str (cmp_eq_str ⟨fun h => absurd h (by decide), fun _ => ?_⟩))))))))
      refine ev_sub (ev_local (by walk_at "G") (ev_int <| subq_tup h1 (by decide) (by decide) (by rfl) ?_))
      cases nn with
      | some nn =>
        refine (stA a false mk nn _ _ rfl h1 rfl rfl (Gput g1 (by decide)) (by walk_at "G") (by walk_at "G")).mono ?_
        rintro fl σ₂ m₂ ⟨rfl, hI⟩; exact hI
      | none =>
        obtain ⟨es', hAd, hel, hem⟩ := id fst
        have g2 := Gput g1 (x := PySem.Str.ofString "name") (v := .none) (by decide)
        refine ex_cons (ex_if (ts_cmp (ev_local (v := .none) (by walk_at "G") (ev_local g2.2.2.2 (cmp_in_dict_none hAd ⟨fun h => absurd h (by decide), fun _ => ?_⟩)))))
        refine ex_cons (ex_if (ts_cmp (ev_local (v := .none) (by walk_at "G") (ev_none (cmp_isnot_none ⟨fun h => absurd h (by decide), fun _ => ex_nil (ex_nil ?_)⟩)))))
        refine (stB _ _ (by show Tm σ σ' T (rows ++ []); rw [List.append_nil]; exact tm) (fst.more (Nat.le_succ _)) g2 (by walk_at "G")).mono ?_
        rintro fl σ₂ m₂ ⟨rfl, hI⟩; exact hI
  · obtain ⟨⟨rows, em, tm, fst, e, e2⟩, g⟩ := hh
    rw [hxl, List.drop_length] at e e2
    have e2 : em = dEms em0 M.items := e2
    subst e2
    rw [hxl] at fst
    exact end3 σ' m' rows tm fst g e
theorem cRows_nil (mark : Int) (ports : List PySem.Str) : ∀ (es : List (Option PySem.Str)) (seen : List PySem.Str), (∀ e ∈ es, e = none) → cRows mark ports seen es = []
  | [], _, _ => rfl
  | none :: es, seen, h => cRows_nil mark ports es seen fun e he => h e (.tail _ he)
  | some x :: es, seen, h => by have := h (some x) (.head _); cases this
theorem iRows_le (pm : PM) (mark : Int) (u : PySem.Str) (es : List (Option PySem.Str)) : (iRows pm mark u es).length ≤ max es.length 1 := by
  unfold iRows
  cases pm u with
  | none => show 1 ≤ _; (first | lia | omega)
  | some ps =>
    show (cRows mark ps [] es ++ _).length ≤ _
    rw [List.length_append]
    by_cases h : (somes es).length = 0
    · rw [cRows_nil mark ps es [] ((somes_nil es).mp h)]
      have : (if (somes es).length = 0 ∧ ps.length < es.length then ([⟨mark, PySem.Str.ofString "too_many_ports", u⟩] : List Row) else []).length ≤ 1 := len_if (Nat.le_refl _) (Nat.zero_le _)
      show 0 + _ ≤ _
      (first | lia | omega)
    · rw [if_neg (fun z => h z.1)]
      have := cRows_le mark ps es []
      show _ + 0 ≤ _
      (first | lia | omega)
theorem bw_ok (pm : PM) (ports : List PySem.Str) (em : PySem.Str → Option Bool) (i : It) : (dRow em i).length + (nRow ports i).length + (aRows pm i).length ≤ bw ports i := by
  have h1 := dRow_le em i
  cases i with
  | port mk n =>
    show _ + (if n ∈ ports then ([] : List Row) else [⟨mk, "port_not_listed", n⟩]).length + 0 ≤ (if n ∈ ports then 1 else 2)
    by_cases h : n ∈ ports
    · rw [if_pos h, if_pos h]; exact h1
    · rw [if_neg h, if_neg h]; exact Nat.succ_le_succ h1
  | inst mk u n es =>
    have h2 := iRows_le pm mk u es
    show _ + 0 + (iRows pm mk u es).length ≤ 1 + max es.length 1
    (first | lia | omega)
theorem gRows_bws (pm : PM) (ports : List PySem.Str) : ∀ (is : List It) (em : PySem.Str → Option Bool), (gRows ports em is).length + (is.flatMap (aRows pm)).length ≤ bws ports is
  | [], _ => Nat.le_refl _
  | i :: is, em => by
    have h1 := bw_ok pm ports em i
    have h2 := gRows_bws pm ports is (dEm em i)
    have e : bws ports (i :: is) = bw ports i + bws ports is := by simp [bws]
    show (dRow em i ++ nRow ports i ++ gRows ports (dEm em i) is).length + _ ≤ _
    rw [List.flatMap_cons, List.length_append, List.length_append, List.length_append, e]; (first | lia | omega)
theorem checkRows_bws (pm : PM) (M : Md) : (checkRows pm M).length ≤ bws M.ports M.items + M.ports.length := by
  rw [← (lawRows_perm pm M).length_eq]
  have h1 := gRows_bws pm M.ports M.items em0
  have h2 := lRows_le (dEms em0 M.items) M.mark M.ports []
  unfold lawRows
  rw [List.length_append, List.length_append]; (first | lia | omega)

/-! the primitives made -/
theorem primF_eq (X : Prim) : primF X = primF ⟨"", 0, X.out, X.ins, X.rows⟩ := by
  have h : ∀ (rs : List URow) (idx : List Nat) (j : Nat), rowsF X idx j rs = rowsF ⟨"", 0, X.out, X.ins, X.rows⟩ idx j rs := by
    intro rs
    induction rs with
    | nil => intro _ _; rfl
    | cons r rs ih => intro idx j; show _ ++ rowsF X _ _ rs = _ ++ rowsF _ _ _ rs; rw [ih]; rfl
  unfold primF
  rw [h]; rfl
theorem prim_tab {X : Prim} {i : Nat} {x1 : PySem.Str} (ho : X.out = "o") (hi : X.ins = [x1]) (hx : x1 = "o" ∨ x1 = "a") (ht : tables[i]? = some X.rows) : ∃ ks, pKinds[i]? = some ks ∧ primF X = pDup X x1 ++ ks := by
  have hl : i < 7 := (List.getElem?_eq_some_iff.mp ht).1
  rw [primF_eq, ho, hi]
  unfold pDup
  rw [ho]
  have h7 : i = 0 ∨ i = 1 ∨ i = 2 ∨ i = 3 ∨ i = 4 ∨ i = 5 ∨ i = 6 := by (first | lia | omega)
  rcases hx with rfl | rfl <;> rcases h7 with rfl | rfl | rfl | rfl | rfl | rfl | rfl <;> (have ht := Option.some.inj ht; rw [← ht]; refine ⟨_, rfl, ?_⟩; decide +kernel)
theorem tab_fit : ∀ {i : Nat} {t : List URow}, tables[i]? = some t → t.length ≤ 10 ∧ ∀ r ∈ t, r.Fit := by
  intro i t ht
  have hl : i < 7 := (List.getElem?_eq_some_iff.mp ht).1
  have h7 : i = 0 ∨ i = 1 ∨ i = 2 ∨ i = 3 ∨ i = 4 ∨ i = 5 ∨ i = 6 := by (first | lia | omega)
  have mk : ∀ r : URow, r.ins.length ≤ 100 → (r.ins.all fun s => (s.cps[0]?).isSome && (!edge s || decide (s = "r"))) = true → r.Fit := by
    intro r h1 h2
    rw [List.all_eq_true] at h2
    refine ⟨h1, fun s hs => ?_, fun s hs he => ?_⟩
    · have := h2 s hs
      rw [Bool.and_eq_true] at this
      exact Option.isSome_iff_exists.mp this.1
    · have := h2 s hs
      rw [Bool.and_eq_true, he] at this
      simpa using this.2
  have all : ∀ t : List URow, t.length ≤ 10 → (t.all fun r => decide (r.ins.length ≤ 100) && (r.ins.all fun s => (s.cps[0]?).isSome && (!edge s || decide (s = "r")))) = true → t.length ≤ 10 ∧ ∀ r ∈ t, r.Fit := by
    intro t h1 h2
    refine ⟨h1, fun r hr => ?_⟩
    rw [List.all_eq_true] at h2
    have := h2 r hr
    rw [Bool.and_eq_true] at this
    exact mk r (by simpa using this.1) this.2
  rcases h7 with rfl | rfl | rfl | rfl | rfl | rfl | rfl <;> (have ht := Option.some.inj ht; rw [← ht]; exact all _ (by decide) (by decide +kernel))
theorem ev_slice_old {value up : PySem.Expr} {sp pos : Pos} {Sa : Addr} {us : List Value} {xs : List AV} {Q : AV → Store → Prop} (hS : F.C.h₀.IsList Sa us.toArray) (hv : VRs xs us) (hz : xs.length ≤ small)
    (h : Ev prog w F σ m value fun a σ₁ => a = .ref Sa ∧ Ev prog w F σ₁ m up fun b σ₂ => ∃ k, b = .int ((k : Nat) : Int) ∧ ∀ c, σ₂ c = none → Q (.ref c) (upd σ₂ c (.list (xs.take k))))
    (hs : ∀ l o, subscripted (.Slice none (some up) none sp) false (.ref l) (.ref o) = operate [.ref o, .ref l] (getItem (.ref l) (.ref o)) := by intro _ _; with_unfolding_all rfl) :
    Ev prog w F σ m (.Subscript value (.Slice none (some up) none sp) pos) Q := by
  intro fr s Q' E S k'
  refine Subscript_ (h fr s _ E S fun x a h' tk σ' r S' q => wpAny_Slice (wpAny_evalPart_none (wpAny_evalPart_some (?_))))
  obtain ⟨rfl, q⟩ := q
  refine q fr _ _ E S' fun y b h₂ tk₂ σ₂ r₂ S₂ q₂ => wpAny_evalPart_none ?_
  obtain ⟨k, rfl, q₂⟩ := q₂
  cases r
  obtain ⟨t, rfl⟩ : ∃ t, y = .int (k : Int) t := by cases r₂; exact ⟨_, rfl⟩
  have S₃ := S₂.push { cls := .type "slice", data := .fields #[.none, .int (k : Int) t, .none] }
  have hL' : (h₂.push { cls := .type "slice", data := .fields #[.none, .int (k : Int) t, .none] }).IsList Sa us.toArray := by
    obtain ⟨mh, own, n, news, F', _⟩ := S₃
    obtain ⟨o, g1, g2⟩ := hS
    exact ⟨o, F'.keep _ _ g1, g2⟩
  refine tail_any hL'.typeIs slot_list_getitem.lookup (wpAny_getItem_list_slice hL' (Heap.IsSliceOf.new ..) .none (.int _ _) .none (by simp) ?_ (by simp only [List.size_toArray, hv.length]; exact small_le hz)) (hs _ _)
  rw [slicePick_upto']
  obtain ⟨hf, S₄⟩ := S₃.alloc (OR.list (prog := prog) (w := w) 0 (hv.take k)) rfl
  exact k' _ _ _ _ _ (.ref _) S₄ (q₂ _ hf)
noncomputable def absI (i : Int) : Int := if i < 0 then -i else i
theorem law_feed_spec (k : Kit K) (O : F.Ok K) (hd : 1 ≤ F.C.d) {Sa : Addr} {us : List Value} {is : List Int} (hS : F.C.h₀.IsList Sa us.toArray) (hv : VRs (is.map .int) us) (hz : is.length ≤ 63) :
    CallF prog w F σ m k.law_feed.f [.ref Sa] fun r σ' => Stp (fun _ => False) σ σ' ∧ ∃ Fa Ca, r = .ref Fa ∧ σ Fa = none ∧ σ Ca = none ∧ Fd σ' Fa Ca := by
  have hsm : small = 1000 := rfl
  refine callK k.law_feed.fn O (Nat.le_trans (Nat.le_of_ble_eq_true rfl) hd) fun c Oc hc hk => ?_
  refine letQ ?_
  intro Qf
  have hS' : c.C.h₀.IsList Sa us.toArray := by
    obtain ⟨o, g1, g2⟩ := hS
    exact ⟨o, hk.2.2 _ _ g1, g2⟩
  refine ex_cons ?_
  refine ex_assign_comp [] [] Oc free_none ?_
  refine ev_slice_old hS' hv (by rw [List.length_map]; (first | lia | omega)) (ev_local (by walk_at "G") ⟨rfl, ev_int ⟨40, rfl, fun l hl => ?_⟩⟩)
  rw [← List.map_take]
  have hzt : (is.take 40).length ≤ 40 := by rw [List.length_take]; (first | lia | omega)
  generalize is.take 40 = js at hzt
  have s1 := Stp.new (S := fun _ => False) (o := .list (js.map .int)) hl
  refine ⟨l, _, rfl, .list upd_self, fun C mh₀ own₀ => cmp_inv (fun i ys σ' m' => σ' = upd σ l (.list (js.map .int)) ∧ ys = ((js.take i).map absI).map .int ∧ i ≤ js.length) ⟨rfl, by rw [List.take_zero]; rfl, Nat.zero_le _⟩ (fun i ys σ' m' hh => ⟨by rw [hh.1], by rw [hh.2.1, List.length_map, List.length_map, List.length_take]; (first | lia | omega)⟩) (fun i x ys σ' m' hx hh => ?_) (fun ys σ' m' hh Ca hCa => ?_)⟩
  · obtain ⟨rfl, rfl, hi0⟩ := hh
    have hi : i < js.length := by
      have := (List.getElem?_eq_some_iff.mp hx).1
      simpa using this
    have hxe : x = .int js[i] := by
      rw [List.getElem?_map, List.getElem?_eq_getElem hi] at hx
      cases hx; rfl
    subst hxe
    refine asgc_name ?_
    refine ev_callB (cfm_ok Oc rfl) k.abs_ boot_abs (evl_cons (ev_callTy (cfm_ok Oc rfl) k.int_ boot_int (evl_cons (evc_local (by walk_at "G") (evl_nil (t_int (evl_nil (b_abs ?_))))))))
    refine ⟨rfl, ?_, hi⟩
    rw [List.take_succ_eq_append_getElem hi, List.map_append, List.map_append]; rfl
  · obtain ⟨rfl, rfl, _⟩ := hh
    rw [List.length_map, List.take_length] at *
    have s2 := Stp.new (S := fun _ => False) (o := .list ((js.map absI).map .int)) hCa
    have hCa0 : σ Ca = none := s1.fresh hCa (fun a h => h.elim)
    refine ex_cons ?_
    refine ex_ret ?_
    refine ev_list (evl_cons (ev_local (by walk_at "G") (evl_cons (ev_int (evl_cons (ev_bin (ev_int ?_)))))))
    refine ev_bin (ev_callTy Oc k.int_ boot_int (evl_cons (ev_callB Oc k.sum_ boot_sum (evl_cons (ev_local (by walk_at "G") (evl_nil (b_sum Oc upd_self ?_)))))))
    refine evl_nil (t_int (ev_int (bin_mod_int (by decide) (bin_add_int (evl_nil ⟨Nat.le_of_ble_eq_true rfl, fun Fa hFa => ?_⟩)))))
    have s3 := Stp.new (S := fun _ => False) (o := .list [.ref Ca, .int 0, .int (7 + ((js.map absI).sum).fmod 1000003)]) hFa
    have hFC : Ca ≠ Fa := ne_of upd_self hFa
    have hfm := fmod_pos (a := (js.map absI).sum) (b := 1000003) (by decide)
    refine ⟨(s1.trans s2).trans s3, Fa, Ca, rfl, (s1.trans s2).fresh hFa (fun a h => h.elim), hCa0, _, _, _, upd_self, upd_old hFC upd_self, ?_, ?_, Int.le_refl _, by (first | lia | omega), by (first | lia | omega)⟩
    · rw [List.length_map]; (first | lia | omega)
    · intro c hc
      obtain ⟨i, _, rfl⟩ := List.mem_map.mp hc
      unfold absI; split <;> (first | lia | omega)
noncomputable def Wh (x : Int) : Un → Prop
  | .md _ => x = -1
  | .pr X => ∃ (i : Nat) (x1 : PySem.Str), x = i ∧ X.out = "o" ∧ X.ins = [x1] ∧ (x1 = "o" ∨ x1 = "a") ∧ tables[i]? = some X.rows
noncomputable def Whs : List Int → List Un → Prop
  | [], [] => True
  | x :: xs, u :: us => Wh x u ∧ Whs xs us
  | _, _ => False
theorem Whs.length : ∀ {xs : List Int} {us : List Un}, Whs xs us → xs.length = us.length
  | [], [], _ => rfl
  | _ :: _, _ :: _, h => by rw [List.length_cons, List.length_cons, h.2.length]
theorem Whs.snoc {x : Int} {u : Un} : ∀ {xs : List Int} {us : List Un}, Whs xs us → Wh x u → Whs (xs ++ [x]) (us ++ [u])
  | [], [], _, h => ⟨h, trivial⟩
  | _ :: _, _ :: _, h, h' => ⟨h.1, h.2.snoc h'⟩
theorem Whs.get : ∀ {xs : List Int} {us : List Un}, Whs xs us → ∀ {i : Nat} {u : Un}, us[i]? = some u → ∃ x, xs[i]? = some x ∧ Wh x u
  | [], [], _, _, _, e => by simp at e
  | _ :: _, _ :: _, h, 0, r, e => by cases e; exact ⟨_, rfl, h.1⟩
  | _ :: _, _ :: _, h, i + 1, r, e => by
    rw [List.getElem?_cons_succ] at e ⊢
    exact h.2.get e
theorem IsUns.at {k : Kit K} : ∀ {xs : List AV} {us : List Un}, IsUns k σ xs us → ∀ {i : Nat} {u : Un}, us[i]? = some u → ∃ x, xs[i]? = some x ∧ IsUn k σ x u
  | [], [], _, _, _, e => by simp at e
  | _ :: _, _ :: _, h, 0, r, e => by cases e; exact ⟨_, rfl, h.1⟩
  | _ :: _, _ :: _, h, i + 1, r, e => by
    rw [List.getElem?_cons_succ] at e ⊢
    exact h.2.at e
noncomputable def GenU : Un → Prop
  | .md M => GenMd M
  | .pr _ => True
noncomputable def abc : List PySem.Str := ["u", "m", "k"]
noncomputable def f1 : Md := ⟨2, "m", ["a"], [.port 3 "a"]⟩
noncomputable def f2 : Md := ⟨4, "m", ["b"], [.port 5 "b"]⟩
noncomputable def f3 : Md := ⟨6, "k", [], [.inst 7 "m" none [some "a"]]⟩
noncomputable def fixed : List Un := [.md f1, .md f2, .md f3]

/-! how many rows -/
theorem uRows_le {x : Int} {U : Un} (h : Wh x U) : (uRows U).length ≤ 2 := by
  cases U with
  | md M => exact Nat.zero_le _
  | pr X =>
    obtain ⟨i, x1, _, h1, h2, h3, h4⟩ := h
    obtain ⟨ks, h5, h6⟩ := prim_tab h1 h2 h3 h4
    have hk : ks.length ≤ 1 := by
      have hl : i < 7 := (List.getElem?_eq_some_iff.mp h5).1
      have h7 : i = 0 ∨ i = 1 ∨ i = 2 ∨ i = 3 ∨ i = 4 ∨ i = 5 ∨ i = 6 := by (first | lia | omega)
      rcases h7 with rfl | rfl | rfl | rfl | rfl | rfl | rfl <;> cases h5 <;> decide
    have hp : (pDup X x1).length ≤ 1 := len_if (Nat.le_refl _) (Nat.zero_le _)
    show ((primF X).map _).length ≤ 2
    rw [List.length_map, h6, List.length_append]; (first | lia | omega)
theorem dupU_le (pm : PM) (U : Un) : (dupU pm U).length ≤ 1 := len_if (Nat.le_refl _) (Nat.zero_le _)
theorem mRows_gen (pm : PM) {U : Un} (h : GenU U) : (uRows U).length + (mRows pm U).length ≤ 18 ∨ ∃ X, U = .pr X := by
  cases U with
  | md M =>
    left
    have h1 := checkRows_bws pm M
    have h2 := h.bws
    have h3 := h.ports
    show 0 + (checkRows pm M).length ≤ 18
    (first | lia | omega)
  | pr X => exact .inr ⟨X, rfl⟩
theorem both_le (pm : PM) {x : Int} {U : Un} (h : GenU U) (hw : Wh x U) : (uRows U).length + (mRows pm U).length ≤ 18 := by
  rcases mRows_gen pm h with h | ⟨X, rfl⟩
  · exact h
  · have := uRows_le hw
    show _ + 0 ≤ 18
    (first | lia | omega)
theorem src1_le (pm0' : PM) : ∀ {gs : List Un} {ws : List Int} (pm : PM), Whs ws gs → (∀ g ∈ gs, GenU g) → (src1 pm gs).length + (gs.flatMap (mRows pm0')).length ≤ 19 * gs.length
  | [], [], _, _, _ => Nat.le_refl _
  | g :: gs, x :: ws, pm, h, hg => by
    have h1 := both_le pm0' (hg g (.head _)) h.1
    have h2 := dupU_le pm g
    have h3 := src1_le pm0' (pmU pm g) h.2 fun g hg' => hg g (.tail _ hg')
    show (uRows g ++ dupU pm g ++ src1 (pmU pm g) gs).length + _ ≤ _
    rw [List.flatMap_cons, List.length_append, List.length_append, List.length_append, List.length_cons]; (first | lia | omega)
theorem fix_nil (pm : PM) : checkRows pm f1 = [] ∧ checkRows pm f2 = [] ∧ (checkRows pm f3).length ≤ 1 := by
  refine ⟨?_, ?_, ?_⟩
  · have e : dRows em0 f1.items ++ lRows (dEms em0 f1.items) f1.mark [] f1.ports ++ f1.items.flatMap (nRow f1.ports) = [] := by rw [← List.length_eq_zero_iff]; decide +kernel
    show (dRows em0 f1.items ++ lRows (dEms em0 f1.items) f1.mark [] f1.ports ++ f1.items.flatMap (nRow f1.ports)) ++ f1.items.flatMap (aRows pm) = []
    rw [e]; rfl
  · have e : dRows em0 f2.items ++ lRows (dEms em0 f2.items) f2.mark [] f2.ports ++ f2.items.flatMap (nRow f2.ports) = [] := by rw [← List.length_eq_zero_iff]; decide +kernel
    show (dRows em0 f2.items ++ lRows (dEms em0 f2.items) f2.mark [] f2.ports ++ f2.items.flatMap (nRow f2.ports)) ++ f2.items.flatMap (aRows pm) = []
    rw [e]; rfl
  · have h := iRows_le pm 7 "m" [some "a"]
    have e : checkRows pm f3 = iRows pm 7 "m" [some "a"] := by
      show [] ++ (iRows pm 7 "m" [some "a"] ++ []) = _
      rw [List.append_nil, List.nil_append]
    rw [e]; exact h
theorem rows_few {gs : List Un} {ws : List Int} (hw : Whs ws gs) (hg : ∀ g ∈ gs, GenU g) (hl : gs.length ≤ 3) : (srcRows (fixed ++ gs)).length < 64 := by
  have key : ∀ pm1 : PM, (src1 pm0 (fixed ++ gs)).length + ((fixed ++ gs).flatMap (mRows pm1)).length ≤ 4 + 19 * gs.length := by
    intro pm1
    obtain ⟨h1, h2, h3⟩ := fix_nil pm1
    have h4 := src1_le pm1 (pmU (pmU (pmU pm0 (.md f1)) (.md f2)) (.md f3)) hw hg
    have d1 := dupU_le pm0 (.md f1)
    have d2 := dupU_le (pmU pm0 (.md f1)) (.md f2)
    have d3 := dupU_le (pmU (pmU pm0 (.md f1)) (.md f2)) (.md f3)
    show ([] ++ dupU pm0 (.md f1) ++ ([] ++ dupU (pmU pm0 (.md f1)) (.md f2) ++ ([] ++ dupU (pmU (pmU pm0 (.md f1)) (.md f2)) (.md f3) ++ src1 (pmU (pmU (pmU pm0 (.md f1)) (.md f2)) (.md f3)) gs))).length + (checkRows pm1 f1 ++ (checkRows pm1 f2 ++ (checkRows pm1 f3 ++ gs.flatMap (mRows pm1)))).length ≤ _
    rw [h1, h2]
    simp only [List.length_append, List.nil_append]
    (first | lia | omega)
  have := key (pmAll pm0 (fixed ++ gs))
  unfold srcRows
  rw [List.length_append]; (first | lia | omega)
/-! at least two -/
theorem pmU_has {pm : PM} {U : Un} {x : PySem.Str} (h : (pm x).isSome = true ∨ x = U.name) : ((pmU pm U) x).isSome = true := by
  unfold pmU
  by_cases q : (pm U.name).isSome = true
  · rw [if_pos q]
    rcases h with h | rfl
    · exact h
    · exact q
  · rw [if_neg q]
    unfold pmPut
    by_cases e : x = U.name
    · rw [if_pos e]; rfl
    · rw [if_neg e]
      rcases h with h | h
      · exact h
      · exact absurd h e
theorem dupU_has {pm : PM} {U : Un} (h : (pm U.name).isSome = true) : (dupU pm U).length = 1 := by unfold dupU; rw [if_pos h]; rfl
theorem src1_len (pm : PM) (U : Un) (us : List Un) : (dupU pm U).length + (src1 (pmU pm U) us).length ≤ (src1 pm (U :: us)).length := by
  show _ ≤ (uRows U ++ dupU pm U ++ src1 (pmU pm U) us).length
  rw [List.length_append, List.length_append]; (first | lia | omega)
theorem rows_two {gs : List Un} (hl : 2 ≤ gs.length) (hn : ∀ g ∈ gs, g.name ∈ abc) : 2 ≤ (src1 pm0 (fixed ++ gs)).length := by
  obtain ⟨g1, g2, gs, rfl⟩ : ∃ g1 g2 gs', gs = g1 :: g2 :: gs' := by
    match gs, hl with
    | g1 :: g2 :: gs', _ => exact ⟨g1, g2, gs', rfl⟩
  have n1 := hn g1 (.head _)
  have n2 := hn g2 (.tail _ (.head _))
  let p1 := pmU pm0 (.md f1)
  let p2 := pmU p1 (.md f2)
  let p3 := pmU p2 (.md f3)
  let p4 := pmU p3 g1
  have m1 : (p1 "m").isSome = true := pmU_has (.inr rfl)
  have m2 : (p2 "m").isSome = true := pmU_has (.inl m1)
  have m3 : (p3 "m").isSome = true := pmU_has (.inl m2)
  have k3 : (p3 "k").isSome = true := pmU_has (.inr rfl)
  have d2 : (dupU p1 (.md f2)).length = 1 := dupU_has m1
  have e1 : (dupU pm0 (.md f1)).length + (src1 p1 (.md f2 :: .md f3 :: g1 :: g2 :: gs)).length ≤ (src1 pm0 (.md f1 :: .md f2 :: .md f3 :: g1 :: g2 :: gs)).length := src1_len pm0 (.md f1) (.md f2 :: .md f3 :: g1 :: g2 :: gs)
  have e2 : (dupU p1 (.md f2)).length + (src1 p2 (.md f3 :: g1 :: g2 :: gs)).length ≤ (src1 p1 (.md f2 :: .md f3 :: g1 :: g2 :: gs)).length := src1_len p1 (.md f2) (.md f3 :: g1 :: g2 :: gs)
  have e3 : (dupU p2 (.md f3)).length + (src1 p3 (g1 :: g2 :: gs)).length ≤ (src1 p2 (.md f3 :: g1 :: g2 :: gs)).length := src1_len p2 (.md f3) (g1 :: g2 :: gs)
  have e4 : (dupU p3 g1).length + (src1 p4 (g2 :: gs)).length ≤ (src1 p3 (g1 :: g2 :: gs)).length := src1_len p3 g1 (g2 :: gs)
  have e5 : (dupU p4 g2).length + (src1 (pmU p4 g2) gs).length ≤ (src1 p4 (g2 :: gs)).length := src1_len p4 g2 gs
  have hd : 1 ≤ (dupU p3 g1).length + (dupU p4 g2).length := by
    by_cases q : (p3 g1.name).isSome = true
    · rw [dupU_has q]; (first | lia | omega)
    · have hu : g1.name = "u" := by
        unfold abc at n1
        simp only [List.mem_cons, List.not_mem_nil, or_false] at n1
        rcases n1 with h | h | h
        · exact h
        · rw [h] at q; exact absurd m3 q
        · rw [h] at q; exact absurd k3 q
      have : (p4 g2.name).isSome = true := by
        unfold abc at n2
        simp only [List.mem_cons, List.not_mem_nil, or_false] at n2
        rcases n2 with h | h | h
        · rw [h]; exact pmU_has (.inr hu.symm)
        · rw [h]; exact pmU_has (.inl m3)
        · rw [h]; exact pmU_has (.inl k3)
      rw [dupU_has this]; (first | lia | omega)
  show 2 ≤ (src1 pm0 (.md f1 :: .md f2 :: .md f3 :: g1 :: g2 :: gs)).length
  (first | lia | omega)
theorem IsUns.refs {k : Kit K} : ∀ {xs : List AV} {us : List Un}, IsUns k σ xs us → ∀ x ∈ xs, isRef x = true
  | [], [], _, x, h => nomatch h
  | v :: vs, u :: us, h, x, hx => by
    rcases List.mem_cons.mp hx with rfl | hx
    · cases u with
      | md M => obtain ⟨a, e, p, i, xs, rfl, _⟩ := IsMd.ex h.1; rfl
      | pr X => obtain ⟨P, pi, pr, rfl, _⟩ := h.1; rfl
    · exact h.2.refs x hx
theorem RowsK.pick1 {xs : List AV} {rs : List Row} (h : RowsK σ xs rs) : ∀ {i x}, xs[i]? = some x → ∃ a r, rs.drop i = r :: rs.drop (i + 1) ∧ x = .ref a ∧ σ a = some (.tup [.str r.kind, .int r.mark, .str r.detail]) := by
  induction h with
  | nil => intro i x e; simp at e
  | cons h1 _ ih =>
    intro i x e
    cases i with
    | zero => simp at e; subst e; exact ⟨_, _, rfl, rfl, h1⟩
    | succ i =>
      obtain ⟨a, r, g1, g2, g3⟩ := ih (by simpa using e)
      exact ⟨a, r, by simpa using g1, g2, g3⟩
theorem take_of_drop {α : Type} {l : List α} {i : Nat} {x : α} (h : l.drop i = x :: l.drop (i + 1)) : l.take (i + 1) = l.take i ++ [x] := by
  have hi : i < l.length := by
    rcases Nat.lt_or_ge i l.length with h' | h'
    · exact h'
    · rw [List.drop_eq_nil_of_le h'] at h; cases h
  rw [List.take_succ_eq_append_getElem hi]
  rw [List.drop_eq_getElem_cons hi] at h
  rw [(List.cons.inj h).1]
/-- the law's last statements -/
theorem law_end (k : Kit K) {c : Fn} (Oc : (c.fm (scOf (nth 65)) none).Ok K) (hd : 7 ≤ c.C.d) {UL D : Addr} {vs xs : List AV} {us : List Un} {rows : List Row} (hU : σ UL = some (.list vs)) (hu : IsUns k σ vs us) (hD : σ D = some (.list xs)) (hr : RowsA σ xs rows) (hp : rows.Perm (srcRows us)) (h64 : (srcRows us).length < 64) (h2 : 2 ≤ (srcRows us).length) (fine : ∀ u ∈ us, u.Fine) (hn : us.length ≤ 10) (tab : Tab k σ)
    (g1 : get "units" m = some (.ref UL)) (g2 : get "due" m = some (.ref D)) : Ex prog w (c.fm (scOf (nth 65)) none) σ m ((bodyOf (nth 65)).drop 10) fun fl σ' _ => retOf fl = .bool true ∧ Tab k σ' := by
  have hsm : small = 1000 := rfl
  have hvl := hu.length
  refine ex_cons (ex_assign (ev_callTy Oc k.list_ boot_list (evl_cons (ev_local g1 (evl_nil (t_list_seq (.inl hU) (by (first | lia | omega)) fun KL hKL => ?_))))))
  have s1 := Stp.new (S := fun _ => False) (o := .list vs) hKL
  have tab1 : Tab k (upd σ KL (.list vs)) := tab.up' s1
  have hU1 := s1.chg _ _ (fun z => z) hU
  have hD1 := s1.chg _ _ (fun z => z) hD
  have hK1 := upd_self (σ := σ) (a := KL) (o := .list vs)
  have hu1 := hu.leq s1.leq
  have hr1 := hr.leq s1.leq
  generalize upd σ KL (.list vs) = σ₁ at *
  obtain ⟨tabo, htab⟩ := tab1.at
  have nt : ∀ {a l}, σ₁ a = some (.list l) → ¬ One k.tabP a := fun h z => by cases z; rw [htab] at h; cases h
  refine ex_cons (ex_assign (ev_callG k.check_source Oc (evl_cons (ev_local (by walk_at "G") (evl_nil ?_)))))
  refine (check_source_spec k Oc (by show 7 ≤ c.C.d; (first | lia | omega)) hU1 hu1 fine hn tab1 h64).mono fun y σ₂ hh => ?_
  obtain ⟨s2, tab2, R, ys, rs', rfl, hR0, hR, hrk, hpe, hso⟩ := hh
  have hU2 := s2.chg _ _ (nt hU1) hU1
  have hD2 := s2.chg _ _ (nt hD1) hD1
  have hK2 := s2.chg _ _ (nt hK1) hK1
  have hr2 := hr1.leq s2.leq
  have hrl := hpe.length_eq
  refine ex_cons ?_
  refine ex_ret ?_
  refine ev_and (ev_cmp ?_)
  refine ev_comp [] [] Oc free_none (ev_local (by walk_at "G") ⟨R, ys, rfl, .list hR, fun C mh₀ own₀ => cmp_inv (fun i zs σ' m' => Stp (fun _ => False) σ₂ σ' ∧ RowsA σ' zs (rs'.take i) ∧ i ≤ rs'.length) ⟨Stp.refl _ _, by rw [List.take_zero]; exact .nil, Nat.zero_le _⟩ (fun i zs σ' m' hh => ⟨(hh.1.chg _ _ (fun z => z) hR).trans hR.symm, by rw [hh.2.1.length, List.length_take]; (first | lia | omega)⟩) (fun i x zs σ' m' hx hh => ?_) (fun zs σ' m' hh CL hCL => ?_)⟩)
  · obtain ⟨s3, hz, hi⟩ := hh
    obtain ⟨a, r, hdr, rfl, ha⟩ := hrk.pick1 hx
    have hil : i < rs'.length := by
      have := (List.getElem?_eq_some_iff.mp hx).1
      rw [← hrk.length]; exact this
    refine asg_tuple (cfm_ok Oc rfl) (s3.leq _ _ rfl ha) (asgl_cons (asgc_name (asgl_cons (asgc_name (asgl_cons (asgc_name (asgl_nil ?_)))))))
    refine ev_tuple (evl_cons (evc_local (by walk_at "G") (evl_cons (evc_local (by walk_at "G") (evl_cons (evc_local (by walk_at "G") (evl_nil ⟨Nat.le_of_ble_eq_true rfl, fun t ht => ?_⟩)))))))
    have s4 := Stp.new (S := fun _ => False) (o := .tup [.int r.mark, .str r.kind, .str r.detail]) ht
    refine ⟨s3.trans s4, ?_, hil⟩
    rw [take_of_drop hdr]
    exact (hz.leq s4.leq).snoc upd_self
  · obtain ⟨s3, hz, hi⟩ := hh
    rw [hrk.length, List.take_length] at hz
    have s4 := Stp.new (S := fun _ => False) (o := .list zs) hCL
    have s34 := s3.trans s4
    have hD3 := s34.chg _ _ (fun z => z) hD2
    have hr3 := hr2.leq s34.leq
    have hC3 := upd_self (σ := σ') (a := CL) (o := .list zs)
    have hz3 := hz.leq s4.leq
    have hU3 := s34.chg _ _ (fun z => z) hU2
    have hK3 := s34.chg _ _ (fun z => z) hK2
    have tab3 : Tab k _ := tab2.up' s34
    generalize upd σ' CL (.list zs) = σ₃ at *
    have hpl := hp.length_eq
    refine ev_callB Oc k.sorted_ boot_sorted (evl_cons (ev_local (by walk_at "G") (evl_nil (b_sorted hD3 hr3 (by (first | lia | omega)) (by (first | lia | omega)) fun E ys2 rs2 hE srt => ?_))))
    have s5 := Stp.new (S := fun _ => False) (o := .list ys2) hE
    have heq : rs2 = rs' := sorted_uniq ((srt.perm.trans hp).trans hpe.symm) srt.ord hso
    have hy2 := srt.rows
    rw [heq] at hy2
    refine cmp_eq_rows Oc (s5.chg _ _ (fun z => z) hC3) upd_self (hz3.leq s5.leq) (hy2.leq s5.leq) ?_
    refine ⟨true, rfl, fun _ => ?_, fun h => absurd h (by decide)⟩
    refine ev_cmp (ev_local (by walk_at "G") (ev_local (by walk_at "G") (cmp_eq_refs Oc (s5.chg _ _ (fun z => z) hU3) (s5.chg _ _ (fun z => z) hK3) hu.refs ?_)))
    exact ⟨rfl, tab3.up' s5⟩
noncomputable def isPr : Un → Bool
  | .md _ => false
  | .pr _ => true
noncomputable def lawM (pm : PM) : Un → List Row
  | .md M => lawRows pm M
  | .pr _ => []
theorem lawM_perm (pm : PM) : ∀ us : List Un, (us.flatMap (lawM pm)).Perm (us.flatMap (mRows pm))
  | [] => .refl _
  | u :: us => by
    rw [List.flatMap_cons, List.flatMap_cons]
    refine List.Perm.append ?_ (lawM_perm pm us)
    cases u with
    | md M => exact lawRows_perm pm M
    | pr X => exact .refl _
/-- the law's dictionary under way, beside the list D -/
noncomputable def FpN (σ : Store) (N : Addr) (pm : PM) (n : Nat) (D : Addr) : Prop :=
  ∃ nds, σ N = some (.dict nds) ∧ nds.length ≤ n ∧ ∀ x, (get x nds = none ∧ pm x = none) ∨ ∃ la ps, get x nds = some (.ref la) ∧ pm x = some ps ∧ ps.length ≤ small ∧ σ la = some (.list (ps.map .str)) ∧ la ≠ D
theorem FpN.toL {N D : Addr} {pm : PM} {n : Nat} (h : FpN σ N pm n D) : FpL σ N pm n := by
  obtain ⟨nds, h1, h2, h3⟩ := h
  refine ⟨nds, h1, h2, fun x => ?_⟩
  rcases h3 x with h | ⟨la, ps, e1, e2, e3, e4, _⟩
  · exact .inl h
  · exact .inr ⟨la, ps, e1, e2, e3, e4⟩
theorem FpN.new {N D D' : Addr} {pm : PM} {n : Nat} (h : FpN σ N pm n D) (hD : σ D' = none) : FpN σ N pm n D' := by
  obtain ⟨nds, h1, h2, h3⟩ := h
  refine ⟨nds, h1, h2, fun x => ?_⟩
  rcases h3 x with h | ⟨la, ps, e1, e2, e3, e4, _⟩
  · exact .inl h
  · exact .inr ⟨la, ps, e1, e2, e3, e4, fun z => by rw [z, hD] at e4; cases e4⟩
theorem FpN.more {N D : Addr} {pm : PM} {n n' : Nat} (h : FpN σ N pm n D) (hn : n ≤ n') : FpN σ N pm n' D := by
  obtain ⟨nds, h1, h2, h3⟩ := h
  exact ⟨nds, h1, Nat.le_trans h2 hn, h3⟩
theorem FpN.keep {σ' : Store} {N D : Addr} {pm : PM} {n : Nat} (h : FpN σ N pm n D) (hN : N ≠ D) (st : Stp (fun b => b = D) σ σ') : FpN σ' N pm n D := by
  obtain ⟨nds, h1, h2, h3⟩ := h
  refine ⟨nds, st.chg _ _ hN h1, h2, fun x => ?_⟩
  rcases h3 x with h | ⟨la, ps, e1, e2, e3, e4, e5⟩
  · exact .inl h
  · exact .inr ⟨la, ps, e1, e2, e3, st.chg _ _ e5 e4, e5⟩
theorem FpN.put {N D la : Addr} {pm : PM} {n : Nat} {x : PySem.Str} {ps : List PySem.Str} {nds : Loc} (h : FpN σ N pm n D) (he : σ N = some (.dict nds)) (hp : σ la = some (.list (ps.map .str))) (hz : ps.length ≤ small) (hD : la ≠ D) : FpN (upd σ N (.dict (Mine.put x (.ref la) nds))) N (pmPut pm x ps) (n + 1) D := by
  obtain ⟨nds', h1, h2, h3⟩ := h
  rw [he] at h1; cases h1
  have hne : ∀ {a l}, σ a = some (.list l) → a ≠ N := fun e => ne_of' e he (by intro h; cases h)
  refine ⟨_, upd_self, Nat.le_trans (put_length _ _ _) (by (first | lia | omega)), fun y => ?_⟩
  unfold pmPut
  rw [get_put]
  by_cases q : y = x
  · rw [if_pos q, if_pos q]; exact .inr ⟨la, ps, rfl, rfl, hz, upd_old (hne hp) hp, hD⟩
  · rw [if_neg q, if_neg q]
    rcases h3 y with h | ⟨pa', ps', e1, e2, e3, e4, e5⟩
    · exact .inl h
    · exact .inr ⟨pa', ps', e1, e2, e3, upd_old (hne e4) e4, e5⟩
/-- what the law's loops keep: units, whiches, the dictionary and the list -/
structure Dw (k : Kit K) (σ σ' : Store) (UL WL N D : Addr) (vs : List AV) (ws : List Int) (us : List Un) (rows : List Row) (pm : PM) (n : Nat) : Prop where
  st : Stp (fun _ => False) σ σ'
  ul : σ' UL = some (.list vs)
  wl : σ' WL = some (.list (ws.map .int))
  un : IsUns k σ' vs us
  dl : ∃ xs, σ' D = some (.list xs) ∧ RowsA σ' xs rows
  fp : FpN σ' N pm n D
  nd : σ D = none
  nn : σ N = none
  ne : D ≠ UL ∧ D ≠ WL ∧ N ≠ D
theorem Dw.nu {k : Kit K} {σ σ' : Store} {UL WL N D : Addr} {vs : List AV} {ws : List Int} {us : List Un} {rows : List Row} {pm : PM} {n : Nat} (h : Dw k σ σ' UL WL N D vs ws us rows pm n) : N ≠ UL ∧ N ≠ WL := by
  obtain ⟨nds, h1, _⟩ := h.fp
  exact ⟨ne_of' h1 h.ul (by intro h; cases h), ne_of' h1 h.wl (by intro h; cases h)⟩
theorem Dw.quiet {k : Kit K} {σ σ₁ σ₂ : Store} {UL WL N D : Addr} {vs : List AV} {ws : List Int} {us : List Un} {rows : List Row} {pm : PM} {n : Nat} (h : Dw k σ σ₁ UL WL N D vs ws us rows pm n) (s : Stp (fun _ => False) σ₁ σ₂) : Dw k σ σ₂ UL WL N D vs ws us rows pm n := by
  obtain ⟨xs, h1, h2⟩ := h.dl
  exact ⟨h.st.trans s, s.chg _ _ (fun z => z) h.ul, s.chg _ _ (fun z => z) h.wl, h.un.leq s.leq, ⟨xs, s.chg _ _ (fun z => z) h1, h2.leq s.leq⟩, h.fp.keep h.ne.2.2 (s.weak fun _ z => z.elim), h.nd, h.nn, h.ne⟩
/-- a new list in the old one's place -/
theorem Dw.swap {k : Kit K} {σ σ₁ : Store} {UL WL N D D' : Addr} {vs xs : List AV} {ws : List Int} {us : List Un} {rows rows' : List Row} {pm : PM} {n : Nat} (h : Dw k σ σ₁ UL WL N D vs ws us rows pm n) (hD : σ₁ D' = none) (hr : RowsA σ₁ xs rows') : Dw k σ (upd σ₁ D' (.list xs)) UL WL N D' vs ws us rows' pm n := by
  have s : Stp (fun _ => False) σ₁ (upd σ₁ D' (.list xs)) := Stp.new hD
  obtain ⟨nds, g1, _⟩ := id h.fp
  exact ⟨h.st.trans s, s.chg _ _ (fun z => z) h.ul, s.chg _ _ (fun z => z) h.wl, h.un.leq s.leq, ⟨xs, upd_self, hr.leq s.leq⟩, (h.fp.new hD).keep (ne_of g1 hD) (s.weak fun _ z => z.elim), h.st.fresh hD (fun a z => z.elim), h.nn, Ne.symm (ne_of h.ul hD), Ne.symm (ne_of h.wl hD), ne_of g1 hD⟩
theorem Dw.app {k : Kit K} {σ σ₁ : Store} {UL WL N D a : Addr} {vs xs : List AV} {ws : List Int} {us : List Un} {rows : List Row} {pm : PM} {n : Nat} (h : Dw k σ σ₁ UL WL N D vs ws us rows pm n) (r : Row) (hx : σ₁ D = some (.list xs)) (hr : RowsA σ₁ xs rows) (ha : σ₁ a = none) : Dw k σ (upd (upd σ₁ a (.tup [.int r.mark, .str r.kind, .str r.detail])) D (.list (xs ++ [.ref a]))) UL WL N D vs ws us (rows ++ [r]) pm n := by
  have s1 : Stp (fun _ => False) σ₁ (upd σ₁ a (.tup [.int r.mark, .str r.kind, .str r.detail])) := Stp.new ha
  have h1 := h.quiet s1
  have s2 : Stp (fun b => b = D) _ (upd (upd σ₁ a (.tup [.int r.mark, .str r.kind, .str r.detail])) D (.list (xs ++ [.ref a]))) := Stp.at rfl (upd_new ha hx) rfl
  exact ⟨h1.st.atNew h.nd, upd_old (Ne.symm h.ne.1) h1.ul, upd_old (Ne.symm h.ne.2.1) h1.wl, h1.un.leq s2.leq, ⟨_, upd_self, ((hr.leq s1.leq).leq s2.leq).snoc (upd_old (fun z => by rw [z, hx] at ha; cases ha) upd_self)⟩, h1.fp.keep h.ne.2.2 s2, h.nd, h.nn, h.ne⟩
theorem Dw.put {k : Kit K} {σ σ₁ : Store} {UL WL N D la : Addr} {vs : List AV} {ws : List Int} {us : List Un} {rows : List Row} {pm : PM} {n : Nat} {nds : Loc} {x : PySem.Str} {ps : List PySem.Str} (h : Dw k σ σ₁ UL WL N D vs ws us rows pm n) (he : σ₁ N = some (.dict nds)) (hp : σ₁ la = some (.list (ps.map .str))) (hz : ps.length ≤ small) (hD : la ≠ D) : Dw k σ (upd σ₁ N (.dict (Mine.put x (.ref la) nds))) UL WL N D vs ws us rows (pmPut pm x ps) (n + 1) := by
  have s2 : Stp (fun b => b = N) σ₁ (upd σ₁ N (.dict (Mine.put x (.ref la) nds))) := Stp.at rfl he rfl
  obtain ⟨xs, h1, h2⟩ := h.dl
  have hne : ∀ {a l}, σ₁ a = some (.list l) → a ≠ N := fun e => ne_of' e he (by intro h; cases h)
  exact ⟨h.st.atNew h.nn, upd_old (hne h.ul) h.ul, upd_old (hne h.wl) h.wl, h.un.leq s2.leq, ⟨xs, upd_old (hne h1) h1, h2.leq s2.leq⟩, h.fp.put he hp hz hD, h.nd, h.nn, h.ne⟩
set_option maxHeartbeats 1000000 in
theorem law_due (k : Kit K) {c : Fn} (Oc : (c.fm (scOf (nth 65)) none).Ok K) (hd : 7 ≤ c.C.d) {UL WL : Addr} {vs : List AV} {ws : List Int} {us : List Un} (hU : σ UL = some (.list vs)) (hW : σ WL = some (.list (ws.map .int))) (hu : IsUns k σ vs us) (hw : Whs ws us) (h64 : (srcRows us).length < 64) (h2 : 2 ≤ (srcRows us).length) (fine : ∀ u ∈ us, u.Fine) (hn : us.length ≤ 10) (tab : Tab k σ)
    (g1 : get "units" m = some (.ref UL)) (g2 : get "whiches" m = some (.ref WL)) : Ex prog w (c.fm (scOf (nth 65)) none) σ m ((bodyOf (nth 65)).drop 6) fun fl σ' _ => retOf fl = .bool true ∧ Tab k σ' := by
  have hsm : small = 1000 := rfl
  have hvl := hu.length
  have hd1 : 1 ≤ c.C.d := by omega
  have hsrc : (src1 pm0 us).length ≤ (srcRows us).length := by unfold srcRows; rw [List.length_append]; omega
  refine ex_cons (ex_assign (ev_dict0 fun N hN => ex_cons (ex_assign (ev_list (evl_nil ⟨Nat.le_of_ble_eq_true rfl, fun D hD => ?_⟩)))))
  have hND : N ≠ D := ne_of upd_self hD
  have hD0 : σ D = none := by rw [← hD]; exact (upd_old (Ne.symm hND) rfl).symm
  have st0 : Stp (fun _ => False) σ (upd (upd σ N (.dict [])) D (.list [])) := ((Stp.refl _ σ).atNew hN).atNew hD0
  have dw0 : Dw k σ (upd (upd σ N (.dict [])) D (.list [])) UL WL N D vs ws us [] pm0 0 :=
    ⟨st0, st0.chg _ _ (fun z => z) hU, st0.chg _ _ (fun z => z) hW, hu.leq st0.leq, ⟨[], upd_self, .nil⟩, ⟨[], upd_old hND upd_self, Nat.le_refl _, fun x => .inl ⟨rfl, rfl⟩⟩, hD0, hN, Ne.symm (ne_of hU hD0), Ne.symm (ne_of hW hD0), hND⟩
  have gd0 : get "due" (put "due" (.ref D) (put "first_ports" (.ref N) m)) = some (.ref D) := by walk_at "G"
  have gf0 : get "first_ports" (put "due" (.ref D) (put "first_ports" (.ref N) m)) = some (.ref N) := by walk_at "G"
  have gu0 : get "units" (put "due" (.ref D) (put "first_ports" (.ref N) m)) = some (.ref UL) := by walk_at "G"
  have gw0 : get "whiches" (put "due" (.ref D) (put "first_ports" (.ref N) m)) = some (.ref WL) := by walk_at "G"
  show Ex _ _ _ _ (put _ _ _) _ _
  generalize upd (upd σ N (.dict [])) D (.list []) = σ₀ at dw0
  generalize put "due" (.ref D) (put "first_ports" (.ref N) m) = m₀ at gd0 gf0 gu0 gw0
  -- the last two loops' state
  have end9 : ∀ (σ₁ : Store) (m₁ : Loc) (D : Addr) (rows : List Row), Dw k σ σ₁ UL WL N D vs ws us rows (pmAll pm0 us) us.length → rows = src1 pm0 us → get "due" m₁ = some (.ref D) → get "units" m₁ = some (.ref UL) → get "whiches" m₁ = some (.ref WL) → get "first_ports" m₁ = some (.ref N) → Ex prog w (c.fm (scOf (nth 65)) none) σ₁ m₁ ((bodyOf (nth 65)).drop 9) fun fl σ' _ => retOf fl = .bool true ∧ Tab k σ' := by
    rintro σ₁ m₁ D rows dw rfl gd gu gw gf
    refine letQ ?_
    intro Qe
    have hperm : (src1 pm0 us ++ us.flatMap (lawM (pmAll pm0 us))).Perm (srcRows us) := List.Perm.append_left _ (lawM_perm _ us)
    have hpl := hperm.length_eq
    refine ex_cons (ex_for Oc (ev_callTy Oc k.range_ boot_range (evl_cons (ev_callB Oc k.len_ boot_len (evl_cons (ev_local gu (evl_nil (b_len_list dw.ul (by omega) (evl_nil (t_range fun q hq => ?_))))))))))
    have sq := Stp.new (S := fun _ => False) (o := .rng 0 (vs.length : Int)) hq
    refine ⟨q, _, rfl, .rng upd_self (by omega) (by omega), for_inv (fun j σ' m' => (∃ D rows, Dw k σ σ' UL WL N D vs ws us rows (pmAll pm0 us) us.length ∧ get "due" m' = some (.ref D) ∧ rows ++ (us.drop j).flatMap (lawM (pmAll pm0 us)) = src1 pm0 us ++ us.flatMap (lawM (pmAll pm0 us))) ∧ σ' q = some (.rng 0 (vs.length : Int)) ∧ get "units" m' = some (.ref UL) ∧ get "whiches" m' = some (.ref WL) ∧ get "first_ports" m' = some (.ref N))
      ⟨⟨D, _, dw.quiet sq, gd, rfl⟩, upd_self, gu, gw, gf⟩ (fun j σ' m' hh => by rw [hh.2.1, upd_self]) (fun j x σ' m' hx hh => ?_) (fun σ' m' hh => ?_)⟩
    · intro Qs
      obtain ⟨⟨D, rows, dw, gd, e⟩, hq', gu, gw, gf⟩ := hh
      obtain ⟨hj, rfl⟩ := rng_get hx
      rw [hvl] at hj
      obtain ⟨U, hUj⟩ : ∃ U, us[j]? = some U := ⟨_, List.getElem?_eq_getElem hj⟩
      have hdrop : us.drop j = U :: us.drop (j + 1) := by
        rw [List.drop_eq_getElem_cons hj]
        rw [List.getElem?_eq_getElem hj] at hUj
        cases hUj; rfl
      rw [hdrop, List.flatMap_cons] at e
      obtain ⟨x, hxv, hxu⟩ := dw.un.at hUj
      obtain ⟨wv, hwv, hWh⟩ := hw.get hUj
      obtain ⟨xs, hx1, hx2⟩ := dw.dl
      have hrl : rows.length + (lawM (pmAll pm0 us) U).length ≤ small := by
        have := congrArg List.length e
        rw [List.length_append, List.length_append] at this
        omega
      refine asg_name ?_
      refine ex_cons (ex_if (ts_cmp (ev_sub (ev_local (by walk_at "G") (ev_local (by walk_at "G") <| subq_list dw.wl (Int.natCast_nonneg _) (by omega) (by rw [Int.toNat_natCast, List.getElem?_map, hwv]; rfl) (ev_int (cmp_lt_int ⟨fun hb => ?_, fun hb => ?_⟩)))))))
      · have hb : wv < 0 := by simpa using hb
        cases U with
        | pr X =>
          obtain ⟨i, x1, h, _⟩ := hWh
          omega
        | md M =>
          refine ex_cons (ex_assign (ev_bin (ev_local (by walk_at "G") (ev_callG k.law_module_faults Oc (evl_cons (ev_sub (ev_local (by walk_at "G") (ev_local (by walk_at "G") <| subq_list dw.ul (Int.natCast_nonneg _) (by omega) (by rw [Int.toNat_natCast]; exact hxv) (evl_cons (ev_local (by walk_at "G") (evl_nil ?_)))))))))))
          refine (law_module_faults_spec k Oc hd1 hxu (fine _ (List.mem_of_getElem? hUj)) dw.fp.toL).mono fun y σ₂ hh => ?_
          obtain ⟨s2, l, ls, rfl, hl, hlr⟩ := hh
          have dw2 := dw.quiet s2
          refine bin_add_list (s2.chg _ _ (fun z => z) hx1) hl (by rw [hx2.length, hlr.length]; exact hrl) fun D' hD' => ?_
          refine ex_nil (ex_nil ⟨⟨D', _, dw2.swap hD' ((hx2.leq s2.leq).app hlr), by walk_at "G", ?_⟩, upd_new hD' (s2.leq _ _ rfl hq'), by walk_at "G", by walk_at "G", by walk_at "G"⟩)
          rw [← e, List.append_assoc]; rfl
      · have hb : ¬ wv < 0 := by simpa using hb
        cases U with
        | md M => exact absurd (show wv < 0 by have : wv = -1 := hWh; omega) hb
        | pr X => exact ex_nil (ex_nil ⟨⟨D, rows, dw, by walk_at "G", e⟩, hq', by walk_at "G", by walk_at "G", by walk_at "G"⟩)
    · obtain ⟨⟨D, rows, dw, gd, e⟩, hq', gu, gw, gf⟩ := hh
      obtain ⟨xs, hx1, hx2⟩ := dw.dl
      have e : rows = src1 pm0 us ++ us.flatMap (lawM (pmAll pm0 us)) := by
        rw [← e, List.drop_eq_nil_of_le (by simp; omega)]; simp
      subst e
      exact law_end k Oc hd dw.ul dw.un hx1 hx2 hperm h64 h2 fine hn (tab.up' dw.st) gu gd
  let I : Nat → Store → Loc → Prop := fun j σ' m' => (∃ D rows pm, Dw k σ σ' UL WL N D vs ws us rows pm j ∧ get "due" m' = some (.ref D) ∧ rows ++ src1 pm (us.drop j) = src1 pm0 us ∧ pmAll pm (us.drop j) = pmAll pm0 us) ∧ get "units" m' = some (.ref UL) ∧ get "whiches" m' = some (.ref WL) ∧ get "first_ports" m' = some (.ref N)
  refine ex_cons (ex_for Oc (ev_callTy Oc k.range_ boot_range (evl_cons (ev_callB Oc k.len_ boot_len (evl_cons (ev_local gu0 (evl_nil (b_len_list dw0.ul (by omega) (evl_nil (t_range fun q hq => ?_))))))))))
  have sq := Stp.new (S := fun _ => False) (o := .rng 0 (vs.length : Int)) hq
  refine ⟨q, _, rfl, .rng upd_self (by omega) (by omega), for_inv (fun j σ' m' => I j σ' m' ∧ σ' q = some (.rng 0 (vs.length : Int)))
    ⟨⟨⟨D, [], pm0, dw0.quiet sq, gd0, rfl, rfl⟩, gu0, gw0, gf0⟩, upd_self⟩ (fun j σ' m' hh => by rw [hh.2, upd_self]) (fun j x σ' m' hx hh => ?_) (fun σ' m' hh => ?_)⟩
  · intro Qs
    obtain ⟨⟨⟨D, rows, pm, dw, gd, e, e2⟩, gu, gw, gf⟩, hq'⟩ := hh
    obtain ⟨hj, rfl⟩ := rng_get hx
    rw [hvl] at hj
    obtain ⟨U, hUj⟩ : ∃ U, us[j]? = some U := ⟨_, List.getElem?_eq_getElem hj⟩
    have hdrop : us.drop j = U :: us.drop (j + 1) := by
      rw [List.drop_eq_getElem_cons hj]
      rw [List.getElem?_eq_getElem hj] at hUj
      cases hUj; rfl
    have hUf := fine U (List.mem_of_getElem? hUj)
    rw [hdrop] at e e2
    have e : rows ++ (uRows U ++ dupU pm U ++ src1 (pmU pm U) (us.drop (j + 1))) = src1 pm0 us := e
    have e2 : pmAll (pmU pm U) (us.drop (j + 1)) = pmAll pm0 us := e2
    obtain ⟨x, hxv, hxu⟩ := dw.un.at hUj
    obtain ⟨wv, hwv, hWh⟩ := hw.get hUj
    obtain ⟨xs, hx1, hx2⟩ := dw.dl
    have hrl : rows.length + (uRows U).length + (dupU pm U).length < 64 := by
      have := congrArg List.length e
      rw [List.length_append, List.length_append, List.length_append] at this
      omega
    have hup : U.ports.length ≤ 11 := by
      cases U with
      | md M => exact Nat.le_trans hUf.ports (by omega)
      | pr X => exact Nat.succ_le_succ hUf.ins
    have hmade : decide (0 ≤ wv) = isPr U := by
      cases U with
      | md M =>
        have : wv = -1 := hWh
        rw [this]; rfl
      | pr X =>
        obtain ⟨i, x1, h, _⟩ := hWh
        rw [h]; exact decide_eq_true (by omega)
    have hxr : ∃ a, x = .ref a := by
      have := hu.refs x (List.mem_of_getElem? hxv)
      cases x <;> simp [isRef] at this
      exact ⟨_, rfl⟩
    -- the last statements of a turn
    have fin : ∀ (σ₁ : Store) (m₁ : Loc) (D : Addr) (rows₁ : List Row), Dw k σ σ₁ UL WL N D vs ws us rows₁ pm j → rows₁ = rows ++ uRows U → σ₁ q = some (.rng 0 (vs.length : Int)) → IsUn k σ₁ x U → get "due" m₁ = some (.ref D) → get "units" m₁ = some (.ref UL) → get "whiches" m₁ = some (.ref WL) → get "first_ports" m₁ = some (.ref N) → get "unit" m₁ = some x → get "made" m₁ = some (.bool (isPr U)) →
        Ex prog w (c.fm (scOf (nth 65)) none) σ₁ m₁ (match ((bodyOf (nth 65)).drop 8).head? with | some (.For _ _ b _ _) => b.drop 3 | _ => []) fun fl σ₂ m₂ => fl = .next ∧ I (j + 1) σ₂ m₂ ∧ σ₂ q = some (.rng 0 (vs.length : Int)) := by
      rintro σ₁ m₁ D rows₁ dw rfl hq1 hxu gd gu gw gf gx gm
      refine letQ ?_
      intro Qe
      obtain ⟨xs, hx1, hx2⟩ := dw.dl
      obtain ⟨nds, hNd, hNl, hNe⟩ := id dw.fp
      have hqD : q ≠ D := ne_of' hq1 hx1 (by intro h; cases h)
      have hqN : q ≠ N := ne_of' hq1 hNd (by intro h; cases h)
      refine ex_cons (ex_assign (Tr.mono (Q := fun v σ₂ => v = .str U.name ∧ σ₁ = σ₂) ?_ ?_))
      · refine ev_ifexp (ts_value (ev_local gm ⟨_, rfl, fun hb => ?_, fun hb => ?_⟩))
        · cases U with
          | md M => cases hb
          | pr X =>
            obtain ⟨P, pi, pr, rfl, hP⟩ := hxu
            exact ev_pattr (pi := pi) (pr := pr) (X := X) (P := P) k Oc (by decide) rfl rfl (ev_local gx ⟨rfl, hP, rfl, rfl⟩)
        · cases U with
          | pr X => cases hb
          | md M =>
            obtain ⟨a, ea, pa, ia, ixs, rfl, ha, _⟩ := IsMd.ex hxu
            exact ev_sub (ev_local gx (ev_int <| subq_tup ha (by decide) (by decide) (by rfl) ⟨rfl, rfl⟩))
      rintro _ _ ⟨rfl, rfl⟩
      refine ex_cons (ex_if (ts_cmp (ev_local (by walk_at "G") (ev_local (by walk_at "G") (cmp_in_dict hNd ⟨fun hin => ?_, fun hin => ?_⟩)))))
      · have hs : (pm U.name).isSome = true := by
          rcases hNe U.name with ⟨a, b⟩ | ⟨la, ps, a, e, _⟩
          · rw [a] at hin; cases hin
          · rw [e]; rfl
        have h1 : dupU pm U = [⟨U.mark, "duplicate", U.name⟩] := if_pos hs
        have h2 : pmU pm U = pm := if_pos hs
        refine ex_cons (ex_expr (ev_meth1 (ev_local (by walk_at "G") ⟨"list.append", m_append hx1, evl_cons (ev_tuple (evl_cons (Tr.mono (Q := fun v σ₃ => v = .int U.mark ∧ σ₁ = σ₃) ?_ ?_)))⟩)))
        · refine ev_ifexp (ts_value (ev_local (by walk_at "G") ⟨_, rfl, fun hb => ?_, fun hb => ?_⟩))
          · cases U with
            | md M => cases hb
            | pr X =>
              obtain ⟨P, pi, pr, rfl, hP⟩ := hxu
              exact ev_pattr (pi := pi) (pr := pr) (X := X) (P := P) k Oc (by decide) rfl rfl (ev_local (by walk_at "G") ⟨rfl, hP, rfl, rfl⟩)
          · cases U with
            | pr X => cases hb
            | md M =>
              obtain ⟨a, ea, pa, ia, ixs, rfl, ha, _⟩ := IsMd.ex hxu
              exact ev_sub (ev_local (by walk_at "G") (ev_int <| subq_tup ha (by decide) (by decide) (by rfl) ⟨rfl, rfl⟩))
        rintro _ _ ⟨rfl, rfl⟩
        refine evl_cons (ev_str (evl_cons (ev_local (by walk_at "G") (evl_nil ⟨Nat.le_of_ble_eq_true rfl, fun a ha => ?_⟩))))
        refine evl_nil (b_append (upd_new ha hx1) (by rw [hx2.length, List.length_append]; omega) (ex_nil (ex_nil ⟨rfl, ⟨⟨D, (rows ++ uRows U) ++ [⟨U.mark, "duplicate", U.name⟩], pm, ?_, by walk_at "G", ?_, ?_⟩, by walk_at "G", by walk_at "G", by walk_at "G"⟩, upd_old hqD (upd_new ha hq1)⟩)))
        · have dw3 := dw.app ⟨U.mark, "duplicate", U.name⟩ hx1 hx2 ha
          exact ⟨dw3.st, dw3.ul, dw3.wl, dw3.un, dw3.dl, dw3.fp.more (Nat.le_succ _), dw3.nd, dw3.nn, dw3.ne⟩
        · rw [h1, h2] at e
          rw [← e]; simp
        · rw [h2] at e2; exact e2
      · have hs : ¬ (pm U.name).isSome = true := by
          rcases hNe U.name with ⟨a, b⟩ | ⟨la, ps, a, e, _⟩
          · rw [b]; exact Bool.false_ne_true
          · rw [a] at hin; cases hin
        have h1 : dupU pm U = [] := if_neg hs
        have h2 : pmU pm U = pmPut pm U.name U.ports := if_neg hs
        refine ex_cons (ex_assign_sub (Tr.mono (Q := fun v σ₃ => ∃ la, v = .ref la ∧ Stp (fun _ => False) σ₁ σ₃ ∧ σ₁ la = none ∧ σ₃ la = some (.list (U.ports.map .str))) ?_ ?_))
        · refine ev_ifexp (ts_value (ev_local (by walk_at "G") ⟨_, rfl, fun hb => ?_, fun hb => ?_⟩))
          · cases U with
            | md M => cases hb
            | pr X =>
              obtain ⟨P, pi, pr, rfl, hP⟩ := hxu
              obtain ⟨i, x1, _, ho, hi, _⟩ := hWh
              refine ev_bin (ev_list (evl_cons (ev_str (evl_nil ⟨Nat.le_of_ble_eq_true rfl, fun l1 hl1 => ?_⟩))))
              have s1 := Stp.new (S := fun _ => False) (o := .list [.str "o"]) hl1
              refine ev_callTy Oc k.list_ boot_list (evl_cons (ev_pattr (pi := pi) (pr := pr) (X := X) (P := P) k Oc (by decide) rfl rfl (ev_local (by walk_at "G") ⟨rfl, hP.leq s1.leq, evl_nil (t_list_seq (.inr (hP.leq s1.leq).ins) (by rw [List.length_map]; have := hUf.ins; omega) fun l2 hl2 => ?_)⟩)))
              have s2 := Stp.new (S := fun _ => False) (o := .list (X.ins.map .str)) hl2
              refine bin_add_list (upd_new hl2 upd_self) upd_self (by rw [List.length_map]; have := hUf.ins; simp; omega) fun la hla => ?_
              have s3 := Stp.new (S := fun _ => False) (o := .list ([.str "o"] ++ X.ins.map .str)) hla
              refine ⟨la, rfl, (s1.trans s2).trans s3, (s1.trans s2).fresh hla (fun a z => z.elim), ?_⟩
              rw [upd_self]
              show some (AO.list ([.str "o"] ++ X.ins.map .str)) = some (.list ((X.out :: X.ins).map .str))
              rw [ho]; rfl
          · cases U with
            | pr X => cases hb
            | md M =>
              obtain ⟨a, ea, pa, ia, ixs, rfl, ha, he, hp, _⟩ := IsMd.ex hxu
              refine ev_callTy Oc k.list_ boot_list (evl_cons (ev_sub (ev_local (by walk_at "G") (ev_int <| subq_tup ha (by decide) (by decide) (by rfl) (evl_nil (t_list_seq (.inr hp) (by rw [List.length_map]; have := hUf.ports; omega) fun la hla => ?_))))))
              exact ⟨la, rfl, Stp.new hla, hla, upd_self⟩
        rintro _ σ₃ ⟨la, rfl, s3, hla0, hla⟩
        have dw3 := dw.quiet s3
        have hNd3 := s3.chg _ _ (fun z => z) hNd
        refine ev_local (by walk_at "G") (ev_local (by walk_at "G") (seti_dict hNd3 (by omega) (ex_nil (ex_nil ⟨rfl, ⟨⟨D, _, _, dw3.put hNd3 hla (by omega) (fun z => by rw [z, hx1] at hla0; cases hla0), by walk_at "G", ?_, ?_⟩, by walk_at "G", by walk_at "G", by walk_at "G"⟩, upd_old hqN (s3.leq _ _ rfl hq1)⟩))))
        · rw [h1, h2] at e
          rw [← e]; simp
        · rw [h2] at e2; exact e2
    refine asg_name ?_
    refine ex_cons (ex_assign (ev_sub (ev_local (by walk_at "G") (ev_local (by walk_at "G") <| subq_list dw.ul (Int.natCast_nonneg _) (by omega) (by rw [Int.toNat_natCast]; exact hxv) ?_))))
    refine ex_cons (ex_assign (ev_cmp (ev_sub (ev_local (by walk_at "G") (ev_local (by walk_at "G") <| subq_list dw.wl (Int.natCast_nonneg _) (by omega) (by rw [Int.toNat_natCast, List.getElem?_map, hwv]; rfl) (ev_int (cmp_ge_int ?_)))))))
    rw [hmade]
    refine ex_cons (ex_if (ts_value (ev_local (by walk_at "G") ⟨_, rfl, fun hb => ?_, fun hb => ?_⟩)))
    · cases U with
      | md M => cases hb
      | pr X =>
        obtain ⟨P, pi, pr, rfl, hP⟩ := id hxu
        obtain ⟨i, x1, rfl, ho, hi, hx1', ht⟩ := hWh
        obtain ⟨ks, hks, hpf⟩ := prim_tab ho hi hx1' ht
        refine ex_cons (ex_assign (ev_bin (ev_local (by walk_at "G") (ev_callG k.law_primitive_faults Oc (evl_cons (ev_local (by walk_at "G") (evl_cons (ev_sub (ev_local (by walk_at "G") (ev_local (by walk_at "G") <| subq_list dw.wl (Int.natCast_nonneg _) (by omega) (by rw [Int.toNat_natCast, List.getElem?_map, hwv]; rfl) (evl_nil ?_)))))))))))
        refine (law_primitive_faults_spec k Oc hd1 hP hi hks).mono fun y σ₂ hh => ?_
        obtain ⟨s2, l, ls, rfl, hl, hlr⟩ := hh
        have hpe : pDue X x1 ks = uRows (.pr X) := by show (pDup X x1 ++ ks).map _ = (primF X).map _; rw [hpf]
        rw [hpe] at hlr
        have dw2 := dw.quiet s2
        refine bin_add_list (s2.chg _ _ (fun z => z) hx1) hl (by rw [hx2.length, hlr.length]; omega) fun D' hD' => ?_
        have s3 := Stp.new (S := fun _ => False) (o := .list (xs ++ ls)) hD'
        refine ex_nil ((fin _ _ D' _ (dw2.swap hD' ((hx2.leq s2.leq).app hlr)) rfl (s3.leq _ _ rfl (s2.leq _ _ rfl hq')) ((hxu.leq s2.leq).leq s3.leq) (by walk_at "G") (by walk_at "G") (by walk_at "G") (by walk_at "G") (by walk_at "G") (by walk_at "G")).mono ?_)
        rintro fl σ₄ m₄ ⟨rfl, hI⟩; exact hI
    · cases U with
      | pr X => cases hb
      | md M =>
        refine ex_nil ((fin _ _ D _ dw (by show rows = rows ++ []; rw [List.append_nil]) hq' hxu (by walk_at "G") (by walk_at "G") (by walk_at "G") (by walk_at "G") (by walk_at "G") (by walk_at "G")).mono ?_)
        rintro fl σ₄ m₄ ⟨rfl, hI⟩; exact hI
  · obtain ⟨⟨⟨D, rows, pm, dw, gd, e, e2⟩, gu, gw, gf⟩, hq'⟩ := hh
    have hl : ((List.range ((vs.length : Nat) : Int).toNat).map fun (i : Nat) => AV.int (i : Int)).length = us.length := by simp; exact hvl
    rw [hl, List.drop_length] at e e2
    rw [hl] at dw
    have e' : rows = src1 pm0 us := by rw [← e]; exact (List.append_nil _).symm
    have e2 : pm = pmAll pm0 us := e2
    subst e2
    exact end9 σ' m' D rows dw e' gd gu gw gf
structure Ul (k : Kit K) (σ σ' : Store) (Fa Ca UL WL : Addr) (ws : List Int) (us : List Un) : Prop where
  st : Stp (fun _ => False) σ σ'
  fd : Fd σ' Fa Ca
  ul : ∃ vs, σ' UL = some (.list vs) ∧ IsUns k σ' vs us
  wl : σ' WL = some (.list (ws.map .int))
  ne : ¬ Fds Fa Ca UL ∧ ¬ Fds Fa Ca WL ∧ UL ≠ WL
  nu : σ UL = none
  nw : σ WL = none
  nf : σ Fa = none
  nc : σ Ca = none
theorem Ul.step {k : Kit K} {σ σ₁ σ₂ : Store} {Fa Ca UL WL : Addr} {ws : List Int} {us : List Un} (h : Ul k σ σ₁ Fa Ca UL WL ws us) (s : Stp (Fds Fa Ca) σ₁ σ₂) (fd : Fd σ₂ Fa Ca) : Ul k σ σ₂ Fa Ca UL WL ws us := by
  obtain ⟨vs, h1, h2⟩ := h.ul
  exact ⟨h.st.drop s (fun a ha => by rcases ha with rfl | rfl <;> first | exact h.nf | exact h.nc), fd, ⟨vs, s.chg _ _ h.ne.1 h1, h2.leq s.leq⟩, s.chg _ _ h.ne.2.1 h.wl, h.ne, h.nu, h.nw, h.nf, h.nc⟩
theorem Ul.quiet {k : Kit K} {σ σ₁ σ₂ : Store} {Fa Ca UL WL : Addr} {ws : List Int} {us : List Un} (h : Ul k σ σ₁ Fa Ca UL WL ws us) (s : Stp (fun _ => False) σ₁ σ₂) : Ul k σ σ₂ Fa Ca UL WL ws us :=
  h.step (s.weak fun _ z => z.elim) (h.fd.keep s (fun z => z) (fun z => z))
theorem Ul.appU {k : Kit K} {σ σ₁ : Store} {Fa Ca UL WL : Addr} {ws : List Int} {us : List Un} {vs : List AV} {v : AV} {u : Un} (h : Ul k σ σ₁ Fa Ca UL WL ws us) (hx : σ₁ UL = some (.list vs)) (hu : IsUns k σ₁ vs us) (hv : IsUn k σ₁ v u) : Ul k σ (upd σ₁ UL (.list (vs ++ [v]))) Fa Ca UL WL ws (us ++ [u]) := by
  have s : Stp (fun b => b = UL) σ₁ (upd σ₁ UL (.list (vs ++ [v]))) := Stp.at rfl hx rfl
  exact ⟨h.st.atNew h.nu, h.fd.keep s (fun z => h.ne.1 (.inl z.symm)) (fun z => h.ne.1 (.inr z.symm)), ⟨_, upd_self, (hu.leq s.leq).snoc (hv.leq s.leq)⟩, upd_old (Ne.symm h.ne.2.2) h.wl, h.ne, h.nu, h.nw, h.nf, h.nc⟩
theorem Ul.appW {k : Kit K} {σ σ₁ : Store} {Fa Ca UL WL : Addr} {ws : List Int} {us : List Un} (h : Ul k σ σ₁ Fa Ca UL WL ws us) (x : Int) : Ul k σ (upd σ₁ WL (.list (ws.map .int ++ [.int x]))) Fa Ca UL WL (ws ++ [x]) us := by
  have s : Stp (fun b => b = WL) σ₁ (upd σ₁ WL (.list (ws.map .int ++ [.int x]))) := Stp.at rfl h.wl rfl
  obtain ⟨vs, h1, h2⟩ := h.ul
  exact ⟨h.st.atNew h.nw, h.fd.keep s (fun z => h.ne.2.1 (.inl z.symm)) (fun z => h.ne.2.1 (.inr z.symm)), ⟨vs, upd_old h.ne.2.2 h1, h2.leq s.leq⟩, by rw [upd_self, List.map_append]; rfl, h.ne, h.nu, h.nw, h.nf, h.nc⟩
theorem fine_of {x : Int} {U : Un} (hw : Wh x U) (hg : GenU U) : U.Fine := by
  cases U with
  | md M => exact ⟨Nat.le_trans hg.ports (by decide), Nat.le_trans hg.items (by decide), hg.wts⟩
  | pr X =>
    obtain ⟨i, x1, _, h1, h2, h3, h4⟩ := hw
    obtain ⟨h5, h6⟩ := tab_fit h4
    exact ⟨by rw [h2]; exact Nat.le_of_ble_eq_true rfl, by rw [h2]; simp, h5, h6⟩
theorem fine_all : ∀ {ws : List Int} {us : List Un}, Whs ws us → (∀ g ∈ us, GenU g) → ∀ u ∈ us, u.Fine
  | [], [], _, _, u, h => nomatch h
  | x :: ws, g :: us, h, hg, u, hu => by
    rcases List.mem_cons.mp hu with rfl | hu
    · exact fine_of h.1 (hg _ (.head _))
    · exact fine_all h.2 (fun g hg' => hg g (.tail _ hg')) u hu
theorem fine_fix : ∀ u ∈ fixed, u.Fine := by
  intro u hu
  unfold fixed at hu
  simp only [List.mem_cons, List.not_mem_nil, or_false] at hu
  rcases hu with rfl | rfl | rfl
  · exact ⟨by decide, by decide, by decide⟩
  · exact ⟨by decide, by decide, by decide⟩
  · exact ⟨by decide, by decide, by decide⟩
set_option maxHeartbeats 1000000 in
theorem law_gen (k : Kit K) {c : Fn} (Oc : (c.fm (scOf (nth 65)) none).Ok K) (hd : 7 ≤ c.C.d) {σ' : Store} {Fa Ca UL WL : Addr} (tab : Tab k σ) (ul0 : Ul k σ σ' Fa Ca UL WL [-1, -1, -1] fixed) (gu : get "units" m = some (.ref UL)) (gf : get "feed" m = some (.ref Fa)) (gw : get "whiches" m = some (.ref WL)) :
    Ex prog w (c.fm (scOf (nth 65)) none) σ' m ((bodyOf (nth 65)).drop 5) fun fl σ' _ => retOf fl = .bool true ∧ Tab k σ' := by
  have hsm : small = 1000 := rfl
  have hd1 : 1 ≤ c.C.d := by (first | lia | omega)
  refine ex_cons ?_
  refine ex_for Oc ?_
  refine ev_callTy Oc k.range_ boot_range ?_
  refine evl_cons ?_
  refine ev_bin (ev_int ?_)
  refine ev_callG k.law_pick Oc (evl_cons (ev_local gf (evl_cons (ev_int (evl_nil ?_)))))
  refine (law_pick_spec k Oc hd1 ul0.fd (by decide) (by decide)).mono ?_
  rintro _ σ₁ ⟨s1, fd1, i, rfl, i0, i1⟩
  obtain ⟨i, rfl⟩ := Int.eq_ofNat_of_zero_le i0
  have ul1 := ul0.step s1 fd1
  have hi : (2 : Int) + (i : Int) = ((2 + i : Nat) : Int) := by (first | lia | omega)
  refine bin_add_int ?_
  rw [hi]
  refine evl_nil (t_range fun q hq => ?_)
  have sq := Stp.new (S := fun _ => False) (o := .rng 0 ((2 + i : Nat) : Int)) hq
  refine ⟨q, _, rfl, .rng upd_self (by (first | lia | omega)) (by (first | lia | omega)), for_inv (fun t σ' m' => (∃ ws gs, Ul k σ σ' Fa Ca UL WL ([-1, -1, -1] ++ ws) (fixed ++ gs) ∧ Whs ws gs ∧ gs.length = t ∧ (∀ g ∈ gs, GenU g) ∧ ∀ g ∈ gs, g.name ∈ abc) ∧ t ≤ 2 + i ∧ σ' q = some (.rng 0 ((2 + i : Nat) : Int)) ∧ get "units" m' = some (.ref UL) ∧ get "feed" m' = some (.ref Fa) ∧ get "whiches" m' = some (.ref WL))
    ⟨⟨[], [], by rw [List.append_nil, List.append_nil]; exact ul1.quiet sq, trivial, rfl, (fun _ h => nomatch h), fun _ h => nomatch h⟩, Nat.zero_le _, upd_self, gu, gf, gw⟩ (fun t σ' m' hh => by rw [hh.2.2.1, upd_self]) (fun t x σ' m' hx hh => ?_) (fun σ' m' hh => ?_)⟩
  · intro Qs
    obtain ⟨⟨ws, gs, ul, hw, hgl, hg, hn⟩, ht, hq', gu, gf, gw⟩ := hh
    obtain ⟨hti, rfl⟩ := rng_get hx
    have hwl := hw.length
    refine asg_name ?_
    -- the name
    refine ex_cons ?_
    refine ex_assign ?_
    refine ev_sub ?_
    refine ev_list ?_
    refine evl_cons ?_
    refine ev_str ?_
    refine evl_cons ?_
    refine ev_str ?_
    refine evl_cons ?_
    refine ev_str ?_
    refine evl_nil ⟨Nat.le_of_ble_eq_true rfl, fun l hl => ?_⟩
    have s2 := Stp.new (S := fun _ => False) (o := .list [.str "u", .str "m", .str "k"]) hl
    have hlF := ul.fd.notNew hl
    have ul2 := ul.quiet s2
    refine ev_callG k.law_pick Oc (evl_cons (ev_local (by walk_at "G") (evl_cons (ev_int (evl_nil ?_)))))
    refine (law_pick_spec k Oc hd1 ul2.fd (by decide) (by decide)).mono ?_
    rintro _ σ₃ ⟨s3, fd3, n, rfl, n0, n1⟩
    obtain ⟨nm, hnm, hnm2⟩ := pick_of AV.str abc n0 n1
    refine subq_list (s3.chg _ _ hlF upd_self) n0 (by (first | lia | omega)) hnm2 ?_
    have ul3 := ul2.step s3 fd3
    have hq3 := s3.leq _ _ rfl (s2.leq _ _ rfl hq')
    refine ex_cons ?_
    refine ex_assign ?_
    refine ev_bin (ev_int (ev_bin (ev_int (ev_local (by walk_at "G") (bin_mul_int (IntMulOk.of_left (by decide +kernel)) (bin_add_int ?_))))))
    -- what comes at a turn's end
    have fin : ∀ (σ₄ : Store) (m₄ : Loc) (x : Int) (v : AV) (U : Un) (vs : List AV), Ul k σ σ₄ Fa Ca UL WL ([-1, -1, -1] ++ (ws ++ [x])) (fixed ++ gs) → σ₄ UL = some (.list vs) → IsUns k σ₄ vs (fixed ++ gs) → IsUn k σ₄ v U → Wh x U → GenU U → U.name ∈ abc → σ₄ q = some (.rng 0 ((2 + i : Nat) : Int)) → get "units" m₄ = some (.ref UL) → get "feed" m₄ = some (.ref Fa) → get "whiches" m₄ = some (.ref WL) →
        (∃ ws gs, Ul k σ (upd σ₄ UL (.list (vs ++ [v]))) Fa Ca UL WL ([-1, -1, -1] ++ ws) (fixed ++ gs) ∧ Whs ws gs ∧ gs.length = t + 1 ∧ (∀ g ∈ gs, GenU g) ∧ ∀ g ∈ gs, g.name ∈ abc) ∧ t + 1 ≤ 2 + i ∧ upd σ₄ UL (.list (vs ++ [v])) q = some (.rng 0 ((2 + i : Nat) : Int)) ∧ get "units" m₄ = some (.ref UL) ∧ get "feed" m₄ = some (.ref Fa) ∧ get "whiches" m₄ = some (.ref WL) := by
      intro σ₄ m₄ x v U vs ul hU hu hv hWh hG hN hq4 g1 g2 g3
      refine ⟨⟨ws ++ [x], gs ++ [U], ?_, hw.snoc hWh, by rw [List.length_append, hgl]; rfl, ?_, ?_⟩, hti, upd_old (fun z => by rw [z, hU] at hq4; cases hq4) hq4, g1, g2, g3⟩
      · rw [← List.append_assoc (as := fixed)]
        exact ul.appU hU hu hv
      · intro g hg'
        rcases List.mem_append.mp hg' with h | h
        · exact hg g h
        · cases List.mem_singleton.mp h; exact hG
      · intro g hg'
        rcases List.mem_append.mp hg' with h | h
        · exact hn g h
        · cases List.mem_singleton.mp h; exact hN
    refine ex_cons ?_
    refine ex_if ?_
    refine ts_cmp ?_
    refine ev_callG k.law_pick Oc (evl_cons (ev_local (by walk_at "G") (evl_cons (ev_int (evl_nil ?_)))))
    refine (law_pick_spec k Oc hd1 ul3.fd (by decide) (by decide)).mono ?_
    rintro _ σ₄ ⟨s4, fd4, n4, rfl, _, _⟩
    have ul4 := ul3.step s4 fd4
    have hq4 := s4.leq _ _ rfl hq3
    have hlen : (([-1, -1, -1] ++ ws).map AV.int).length ≤ small := by
      rw [List.length_map, List.length_append]; simp; (first | lia | omega)
    refine ev_int (cmp_eq_int ⟨fun _ => ?_, fun _ => ?_⟩)
    · -- a primitive
      refine ex_cons ?_
      refine ex_expr ?_
      refine ev_meth1 ?_
      refine ev_local (by walk_at "G") ⟨"list.append", m_append ul4.wl, ?_⟩
      refine evl_cons ?_
      refine ev_callG k.law_pick Oc (evl_cons (ev_local (by walk_at "G") (evl_cons (ev_int (evl_nil ?_)))))
      refine (law_pick_spec k Oc hd1 ul4.fd (by decide) (by decide)).mono ?_
      rintro _ σ₅ ⟨s5, fd5, wi, rfl, w0, w1⟩
      obtain ⟨wi, rfl⟩ := Int.eq_ofNat_of_zero_le w0
      have ul5 := ul4.step s5 fd5
      refine evl_nil (b_append ul5.wl hlen ?_)
      have ul6 := ul5.appW (wi : Int)
      have hq6 : upd σ₅ WL (.list (([-1, -1, -1] ++ ws).map AV.int ++ [.int (wi : Int)])) q = some (.rng 0 ((2 + i : Nat) : Int)) := upd_old (fun z => by have := s5.leq _ _ rfl hq4; rw [z, ul5.wl] at this; cases this) (s5.leq _ _ rfl hq4)
      generalize upd σ₅ WL (.list (([-1, -1, -1] ++ ws).map AV.int ++ [.int (wi : Int)])) = σ₆ at ul6 hq6
      refine ex_cons ?_
      refine ex_assign ?_
      refine Tr.mono (Q := fun v σ₇ => ∃ pi x1, v = .ref pi ∧ σ₇ pi = some (.tup [.str x1]) ∧ (x1 = PySem.Str.ofString "o" ∨ x1 = PySem.Str.ofString "a") ∧ Stp (Fds Fa Ca) σ₆ σ₇ ∧ Fd σ₇ Fa Ca) ?_ ?_
      · refine ev_ifexp ?_
        refine ts_cmp ?_
        refine ev_callG k.law_pick Oc (evl_cons (ev_local (by walk_at "G") (evl_cons (ev_int (evl_nil ?_)))))
        refine (law_pick_spec k Oc hd1 ul6.fd (by decide) (by decide)).mono ?_
        rintro _ σ₇ ⟨s7, fd7, n7, rfl, _, _⟩
        refine ev_int (cmp_eq_int ⟨fun _ => ?_, fun _ => ?_⟩)
        · refine ev_tuple ?_
          refine evl_cons ?_
          refine ev_str ?_
          refine evl_nil ⟨Nat.le_of_ble_eq_true rfl, fun p hp => ?_⟩
          have s8 := Stp.new (S := fun _ => False) (o := .tup [.str "o"]) hp
          exact ⟨p, _, rfl, upd_self, .inl rfl, s7.trans (s8.weak fun _ z => z.elim), fd7.keep s8 (fun z => z) (fun z => z)⟩
        · refine ev_tuple ?_
          refine evl_cons ?_
          refine ev_str ?_
          refine evl_nil ⟨Nat.le_of_ble_eq_true rfl, fun p hp => ?_⟩
          have s8 := Stp.new (S := fun _ => False) (o := .tup [.str "a"]) hp
          exact ⟨p, _, rfl, upd_self, .inr rfl, s7.trans (s8.weak fun _ z => z.elim), fd7.keep s8 (fun z => z) (fun z => z)⟩
      rintro _ σ₇ ⟨pi, x1, rfl, hpi, hx1, s7, fd7⟩
      have ul7 := ul6.step s7 fd7
      have hq7 := s7.leq _ _ rfl hq6
      obtain ⟨vs7, hU7, hu7⟩ := ul7.ul
      have hvl := hu7.length
      refine ex_cons ?_
      refine ex_expr ?_
      refine ev_meth1 ?_
      refine ev_local (by walk_at "G") ⟨"list.append", m_append hU7, ?_⟩
      refine evl_cons ?_
      refine ev_callF Oc k.primN k.primK ?_
      refine evl_cons ?_
      refine ev_local (by walk_at "G") ?_
      refine evl_cons ?_
      refine ev_local (by walk_at "G") ?_
      refine evl_cons ?_
      refine ev_str ?_
      refine evl_cons ?_
      refine ev_local (by walk_at "G") ?_
      refine evl_cons ?_
      refine ev_bool ?_
      refine evl_cons ?_
      refine ev_int ?_
      refine evl_cons ?_
      refine ev_sub ?_
      refine ev_callF0 Oc k.law_tables.ns k.law_tables.fn.1 ?_
      refine (law_tables_spec k Oc hd1).mono ?_
      rintro _ σ₈ ⟨s8, tl, txs, rfl, htl, hts⟩
      have ul8 := ul7.quiet s8
      refine ev_sub ?_
      refine ev_local (by walk_at "G") ?_
      refine ev_neg (ev_int ⟨1, rfl, ?_⟩)
      have hlast : ((([-1, -1, -1] ++ ws) ++ [(wi : Int)]).map AV.int)[(-1 + (((([-1, -1, -1] ++ ws) ++ [(wi : Int)]).map AV.int).length : Int)).toNat]? = some (.int (wi : Int)) := by
        have e : (-1 + (((([-1, -1, -1] ++ ws) ++ [(wi : Int)]).map AV.int).length : Int)).toNat = ([-1, -1, -1] ++ ws).length := by
          rw [List.length_map, List.length_append]; simp; (first | lia | omega)
        rw [e, List.getElem?_map, List.getElem?_append_right (Nat.le_refl _), Nat.sub_self]; rfl
      refine subq_list_neg ul8.wl (by decide) (by decide) ?_ hlast ?_
      · rw [List.length_map, List.length_append]; simp; (first | lia | omega)
      obtain ⟨tb, htb⟩ : ∃ tb, tables[wi]? = some tb := ⟨_, List.getElem?_eq_getElem (show wi < tables.length by show wi < 7; (first | lia | omega))⟩
      obtain ⟨pr, prs, hpr, hpr2, hpr3⟩ := hts.get htb
      refine subq_list htl (Int.natCast_nonneg _) (by (first | lia | omega)) (by rw [Int.toNat_natCast]; exact hpr) ?_
      refine evl_nil ?_
      refine prim_spec k Oc (by show 2 ≤ c.C.d; (first | lia | omega)) (X := ⟨nm, 20 + 20 * (t : Int), "o", [x1], tb⟩) (s8.leq _ _ rfl hpi) ⟨prs, hpr2, hpr3⟩ fun P σ₉ hP0 s9 hP => ?_
      have ul9 := ul8.quiet s9
      have s89 := s8.trans s9
      have hU9 := s89.chg _ _ (fun z => z) hU7
      refine evl_nil (b_append hU9 (by rw [hvl, List.length_append]; show 3 + gs.length ≤ small; (first | lia | omega)) (ex_nil (ex_nil ?_)))
      refine fin σ₉ _ (wi : Int) (.ref P) (.pr ⟨nm, 20 + 20 * (t : Int), "o", [x1], tb⟩) vs7 (by rw [← List.append_assoc]; exact ul9) hU9 (hu7.leq s89.leq) ⟨P, pi, pr, rfl, hP⟩ ⟨wi, x1, rfl, rfl, rfl, hx1, htb⟩ trivial hnm (s89.leq _ _ rfl hq7) (by walk_at "G") (by walk_at "G") (by walk_at "G")
    · -- a module
      refine ex_cons ?_
      refine ex_expr ?_
      refine ev_meth1 ?_
      refine ev_local (by walk_at "G") ⟨"list.append", m_append ul4.wl, ?_⟩
      refine evl_cons ?_
      refine ev_neg (ev_int ⟨1, rfl, ?_⟩)
      refine evl_nil (b_append ul4.wl hlen ?_)
      have ul6 := ul4.appW (-1)
      have hq6 : upd σ₄ WL (.list (([-1, -1, -1] ++ ws).map AV.int ++ [.int (-1)])) q = some (.rng 0 ((2 + i : Nat) : Int)) := upd_old (fun z => by rw [z, ul4.wl] at hq4; cases hq4) hq4
      generalize upd σ₄ WL (.list (([-1, -1, -1] ++ ws).map AV.int ++ [.int (-1)])) = σ₆ at ul6 hq6
      obtain ⟨vs7, hU7, hu7⟩ := ul6.ul
      have hvl := hu7.length
      refine ex_cons ?_
      refine ex_expr ?_
      refine ev_meth1 ?_
      refine ev_local (by walk_at "G") ⟨"list.append", m_append hU7, ?_⟩
      refine evl_cons ?_
      refine ev_callG k.law_module Oc ?_
      refine evl_cons ?_
      refine ev_local (by walk_at "G") ?_
      refine evl_cons ?_
      refine ev_local (by walk_at "G") ?_
      refine evl_cons ?_
      refine ev_local (by walk_at "G") ?_
      refine evl_nil ?_
      refine (law_module_spec k Oc (by show 2 ≤ c.C.d; (first | lia | omega)) ul6.fd).mono ?_
      rintro v σ₈ ⟨s8, fd8, M, hM, hm1, hm2, hgen⟩
      have ul8 := ul6.step s8 fd8
      have hU8 := s8.chg _ _ ul6.ne.1 hU7
      refine evl_nil (b_append hU8 (by rw [hvl, List.length_append]; show 3 + gs.length ≤ small; (first | lia | omega)) (ex_nil (ex_nil ?_)))
      exact fin σ₈ _ (-1) v (.md M) vs7 (by rw [← List.append_assoc]; exact ul8) hU8 (hu7.leq s8.leq) hM rfl hgen (by show M.name ∈ abc; rw [hm2]; exact hnm) (s8.leq _ _ rfl hq6) (by walk_at "G") (by walk_at "G") (by walk_at "G")
  · obtain ⟨⟨ws, gs, ul, hw, hgl, hg, hn⟩, ht, hq', gu, gf, gw⟩ := hh
    have hl : ((List.range (((2 + i : Nat) : Int)).toNat).map fun (i : Nat) => AV.int (i : Int)).length = 2 + i := by rw [List.length_map, List.length_range, Int.toNat_natCast]
    rw [hl] at hgl
    obtain ⟨vs, hU, hu⟩ := ul.ul
    have h2 := rows_two (gs := gs) (by (first | lia | omega)) hn
    have hsrc : (src1 pm0 (fixed ++ gs)).length ≤ (srcRows (fixed ++ gs)).length := by unfold srcRows; rw [List.length_append]; (first | lia | omega)
    refine law_due k Oc hd hU ul.wl hu ⟨rfl, rfl, rfl, hw⟩ (rows_few hw hg (by (first | lia | omega))) (by (first | lia | omega)) ?_ (by rw [List.length_append]; show 3 + gs.length ≤ 10; (first | lia | omega)) (tab.up' ul.st) gu gw
    intro u hu'
    rcases List.mem_append.mp hu' with h | h
    · exact fine_fix u h
    · exact fine_all hw hg u h
theorem law_body (k : Kit K) {c : Fn} (Oc : (c.fm (scOf (nth 65)) none).Ok K) (hd : 7 ≤ c.C.d) {Sa : Addr} {us : List Value} {is : List Int} (hS : c.C.h₀.IsList Sa us.toArray) (hv : VRs (is.map .int) us) (hz : is.length ≤ 63) (tab : Tab k σ) (gs : get "script" m = some (.ref Sa)) :
    Ex prog w (c.fm (scOf (nth 65)) none) σ m (bodyOf (nth 65)) fun fl σ' _ => retOf fl = .bool true ∧ Tab k σ' := by
  have hd1 : 1 ≤ c.C.d := by (first | lia | omega)
  refine ex_cons (ex_assign (ev_callG k.law_feed Oc (evl_cons (ev_local gs (evl_nil ?_)))))
  refine (law_feed_spec k Oc hd1 hS hv hz).mono ?_
  rintro _ σ₁ ⟨s1, Fa, Ca, rfl, hFa, hCa, fd1⟩
  refine ex_cons ?_
  refine ex_assign ?_
  refine ev_list ?_
  refine evl_cons ?_
  refine Tr.mono (Q := fun v σ₂ => Stp (fun _ => False) σ₁ σ₂ ∧ IsUn k σ₂ v (.md f1)) ?_ ?_
  · refine ev_tuple ?_
    refine evl_cons ?_
    refine ev_str ?_
    refine evl_cons ?_
    refine ev_int ?_
    refine evl_cons ?_
    refine ev_str ?_
    refine evl_cons ?_
    refine ev_tuple ?_
    refine evl_nil ⟨Nat.zero_le _, fun e he => ?_⟩
    refine evl_cons ?_
    refine ev_tuple ?_
    refine evl_cons ?_
    refine ev_str ?_
    refine evl_nil ⟨Nat.le_of_ble_eq_true rfl, fun p hp => ?_⟩
    refine evl_cons ?_
    refine ev_tuple ?_
    refine evl_cons ?_
    refine ev_callG k.law_port Oc ?_
    refine evl_cons ?_
    refine ev_int ?_
    refine evl_cons ?_
    refine ev_str ?_
    refine evl_nil ?_
    refine (law_port_spec k Oc hd1).mono ?_
    rintro vi σ₃ ⟨s3, hi⟩
    refine evl_nil ⟨Nat.le_of_ble_eq_true rfl, fun i hi' => ?_⟩
    refine evl_cons ?_
    refine ev_str ?_
    refine evl_nil ⟨Nat.le_of_ble_eq_true rfl, fun a ha => ?_⟩
    have t1 := Stp.new (S := fun _ => False) (o := .tup []) he
    have t2 := Stp.new (S := fun _ => False) (o := .tup [.str "a"]) hp
    have t3 := Stp.new (S := fun _ => False) (o := .tup [vi]) hi'
    have t4 := Stp.new (S := fun _ => False) (o := .tup [.str "module", .int 2, .str "m", .ref e, .ref p, .ref i, .str "wire"]) ha
    exact ⟨(((t1.trans t2).trans s3).trans t3).trans t4, ⟨a, e, p, i, [vi], rfl, upd_self, (((t2.trans s3).trans t3).trans t4).leq _ _ rfl upd_self, ((s3.trans t3).trans t4).leq _ _ rfl upd_self, t4.leq _ _ rfl upd_self, .cons (hi.leq (t3.trans t4).leq) .nil⟩⟩
  rintro v1 σ₂ ⟨s2, h1⟩
  refine evl_nil ⟨Nat.le_of_ble_eq_true rfl, fun UL hUL => ?_⟩
  have sU := Stp.new (S := fun _ => False) (o := .list [v1]) hUL
  have sA := (s1.trans s2).trans sU
  have hULn : σ UL = none := (s1.trans s2).fresh hUL (fun a z => z.elim)
  have hU3 := upd_self (σ := σ₂) (a := UL) (o := .list [v1])
  have hu3 : IsUns k (upd σ₂ UL (.list [v1])) [v1] [.md f1] := ⟨h1.leq sU.leq, trivial⟩
  have fd3 := (fd1.keep s2 (fun z => z) (fun z => z)).keep sU (fun z => z) (fun z => z)
  have hUF : ¬ Fds Fa Ca UL := (fd1.keep s2 (fun z => z) (fun z => z)).notNew hUL
  have gu : get "units" (put "units" (.ref UL) (put "feed" (.ref Fa) m)) = some (.ref UL) := by walk_at "G"
  have gf : get "feed" (put "units" (.ref UL) (put "feed" (.ref Fa) m)) = some (.ref Fa) := by walk_at "G"
  show Ex _ _ _ _ (put _ _ _) _ _
  generalize put "units" (.ref UL) (put "feed" (.ref Fa) m) = m₁ at gu gf
  generalize upd σ₂ UL (.list [v1]) = σ₃ at sA hU3 hu3 fd3
  -- the second module
  refine ex_cons ?_
  refine ex_expr ?_
  refine ev_meth1 ?_
  refine ev_local gu ⟨"list.append", m_append hU3, ?_⟩
  refine evl_cons ?_
  refine (Tr.mono (Q := fun v σ₄ => Stp (fun _ => False) σ₃ σ₄ ∧ IsUn k σ₄ v (.md f2)) ?_ ?_)
  · refine ev_tuple ?_
    refine evl_cons ?_
    refine ev_str ?_
    refine evl_cons ?_
    refine ev_int ?_
    refine evl_cons ?_
    refine ev_str ?_
    refine evl_cons ?_
    refine ev_tuple ?_
    refine evl_nil ⟨Nat.zero_le _, fun e he => ?_⟩
    refine evl_cons ?_
    refine ev_tuple ?_
    refine evl_cons ?_
    refine ev_str ?_
    refine evl_nil ⟨Nat.le_of_ble_eq_true rfl, fun p hp => ?_⟩
    refine evl_cons ?_
    refine ev_tuple ?_
    refine evl_cons ?_
    refine ev_callG k.law_port Oc ?_
    refine evl_cons ?_
    refine ev_int ?_
    refine evl_cons ?_
    refine ev_str ?_
    refine evl_nil ?_
    refine (law_port_spec k Oc hd1).mono ?_
    rintro vi σ₃ ⟨s3, hi⟩
    refine evl_nil ⟨Nat.le_of_ble_eq_true rfl, fun i hi' => ?_⟩
    refine evl_cons ?_
    refine ev_str ?_
    refine evl_nil ⟨Nat.le_of_ble_eq_true rfl, fun a ha => ?_⟩
    have t1 := Stp.new (S := fun _ => False) (o := .tup []) he
    have t2 := Stp.new (S := fun _ => False) (o := .tup [.str "b"]) hp
    have t3 := Stp.new (S := fun _ => False) (o := .tup [vi]) hi'
    have t4 := Stp.new (S := fun _ => False) (o := .tup [.str "module", .int 4, .str "m", .ref e, .ref p, .ref i, .str "wire"]) ha
    exact ⟨(((t1.trans t2).trans s3).trans t3).trans t4, ⟨a, e, p, i, [vi], rfl, upd_self, (((t2.trans s3).trans t3).trans t4).leq _ _ rfl upd_self, ((s3.trans t3).trans t4).leq _ _ rfl upd_self, t4.leq _ _ rfl upd_self, .cons (hi.leq (t3.trans t4).leq) .nil⟩⟩
  rintro v2 σ₄ ⟨s4, h2⟩
  have hU4 := s4.chg _ _ (fun z => z) hU3
  refine evl_nil (b_append hU4 (Nat.le_of_ble_eq_true rfl) ?_)
  have sB := sA.trans s4
  have sP : Stp (fun b => b = UL) σ₄ (upd σ₄ UL (.list ([v1] ++ [v2]))) := Stp.at rfl hU4 rfl
  have sC := sB.atNew (o := .list ([v1] ++ [v2])) hULn
  have hU5 := upd_self (σ := σ₄) (a := UL) (o := .list ([v1] ++ [v2]))
  have hu5 : IsUns k (upd σ₄ UL (.list ([v1] ++ [v2]))) [v1, v2] [.md f1, .md f2] := ((hu3.leq s4.leq).leq sP.leq).snoc (h2.leq sP.leq)
  have fd5 := (fd3.keep s4 (fun z => z) (fun z => z)).keep sP (fun z => hUF (.inl z.symm)) (fun z => hUF (.inr z.symm))
  have hU5 : upd σ₄ UL (.list ([v1] ++ [v2])) UL = some (.list [v1, v2]) := hU5
  generalize upd σ₄ UL (.list ([v1] ++ [v2])) = σ₅ at sC hU5 hu5 fd5
  -- the third one
  refine ex_cons ?_
  refine ex_expr ?_
  refine ev_meth1 ?_
  refine ev_local gu ⟨"list.append", m_append hU5, ?_⟩
  refine evl_cons ?_
  refine Tr.mono (Q := fun v σ₆ => Stp (fun _ => False) σ₅ σ₆ ∧ IsUn k σ₆ v (.md f3)) ?_ ?_
  · refine ev_tuple ?_
    refine evl_cons ?_
    refine ev_str ?_
    refine evl_cons ?_
    refine ev_int ?_
    refine evl_cons ?_
    refine ev_str ?_
    refine evl_cons ?_
    refine ev_tuple ?_
    refine evl_nil ⟨Nat.zero_le _, fun e he => ?_⟩
    refine evl_cons ?_
    refine ev_tuple ?_
    refine evl_nil ⟨Nat.zero_le _, fun p hp => ?_⟩
    refine evl_cons ?_
    refine ev_tuple ?_
    refine evl_cons ?_
    refine ev_callG k.law_instance Oc ?_
    refine evl_cons ?_
    refine ev_int ?_
    refine evl_cons ?_
    refine ev_str ?_
    refine evl_cons ?_
    refine ev_none ?_
    refine evl_cons ?_
    refine ev_list ?_
    refine evl_cons ?_
    refine ev_str ?_
    refine evl_nil ⟨Nat.le_of_ble_eq_true rfl, fun l hl => ?_⟩
    refine evl_nil ?_
    have t1 := Stp.new (S := fun _ => False) (o := .tup []) he
    have t2 := Stp.new (S := fun _ => False) (o := .tup []) hp
    have t3 := Stp.new (S := fun _ => False) (o := .list [.str "a"]) hl
    refine (law_instance_spec k Oc hd1 (nn := none) (es := [some (PySem.Str.ofString "a")]) upd_self (Nat.le_of_ble_eq_true rfl)).mono ?_
    rintro vi σ₆ ⟨s6, hi⟩
    refine evl_nil ⟨Nat.le_of_ble_eq_true rfl, fun i hi' => ?_⟩
    refine evl_cons ?_
    refine ev_str ?_
    refine evl_nil ⟨Nat.le_of_ble_eq_true rfl, fun a ha => ?_⟩
    have t4 := Stp.new (S := fun _ => False) (o := .tup [vi]) hi'
    have t5 := Stp.new (S := fun _ => False) (o := .tup [.str "module", .int 6, .str "k", .ref e, .ref p, .ref i, .str "wire"]) ha
    exact ⟨((((t1.trans t2).trans t3).trans s6).trans t4).trans t5, ⟨a, e, p, i, [vi], rfl, upd_self, ((((t2.trans t3).trans s6).trans t4).trans t5).leq _ _ rfl upd_self, (((t3.trans s6).trans t4).trans t5).leq _ _ rfl upd_self, t5.leq _ _ rfl upd_self, .cons (hi.leq (t4.trans t5).leq) .nil⟩⟩
  rintro v3 σ₆ ⟨s6, h3⟩
  have hU6 := s6.chg _ _ (fun z => z) hU5
  refine evl_nil (b_append hU6 (Nat.le_of_ble_eq_true rfl) ?_)
  have sD := sC.trans s6
  have sQ : Stp (fun b => b = UL) σ₆ (upd σ₆ UL (.list ([v1, v2] ++ [v3]))) := Stp.at rfl hU6 rfl
  have sE := sD.atNew (o := .list ([v1, v2] ++ [v3])) hULn
  have hU7 : upd σ₆ UL (.list ([v1, v2] ++ [v3])) UL = some (.list [v1, v2, v3]) := upd_self
  have hu7 : IsUns k (upd σ₆ UL (.list ([v1, v2] ++ [v3]))) [v1, v2, v3] fixed := ((hu5.leq s6.leq).leq sQ.leq).snoc (h3.leq sQ.leq)
  have fd7 := (fd5.keep s6 (fun z => z) (fun z => z)).keep sQ (fun z => hUF (.inl z.symm)) (fun z => hUF (.inr z.symm))
  generalize upd σ₆ UL (.list ([v1, v2] ++ [v3])) = σ₇ at sE hU7 hu7 fd7
  refine ex_cons ?_
  refine ex_assign ?_
  refine ev_list ?_
  refine evl_cons ?_
  refine ev_neg (ev_int ⟨1, rfl, ?_⟩)
  refine evl_cons ?_
  refine ev_neg (ev_int ⟨1, rfl, ?_⟩)
  refine evl_cons ?_
  refine ev_neg (ev_int ⟨1, rfl, ?_⟩)
  refine evl_nil ⟨Nat.le_of_ble_eq_true rfl, fun WL hWL => ?_⟩
  have sW := Stp.new (S := fun _ => False) (o := .list [.int (-1), .int (-1), .int (-1)]) hWL
  have ul0 : Ul k σ (upd σ₇ WL (.list [.int (-1), .int (-1), .int (-1)])) Fa Ca UL WL [-1, -1, -1] fixed :=
    ⟨sE.trans sW, fd7.keep sW (fun z => z) (fun z => z), ⟨_, sW.chg _ _ (fun z => z) hU7, hu7.leq sW.leq⟩, upd_self, ⟨hUF, fd7.notNew hWL, ne_of hU7 hWL⟩, hULn, sE.fresh hWL (fun a z => z.elim), hFa, hCa⟩
  have gu0 : get "units" (put "whiches" (.ref WL) m₁) = some (.ref UL) := by walk_at "G"
  have gf0 : get "feed" (put "whiches" (.ref WL) m₁) = some (.ref Fa) := by walk_at "G"
  have gw0 : get "whiches" (put "whiches" (.ref WL) m₁) = some (.ref WL) := by walk_at "G"
  exact law_gen k Oc hd tab ul0 gu0 gf0 gw0
end Mine
namespace Mine
theorem len0 {vs : List Value} (h : vs.length = 0) : vs = [] := List.eq_nil_of_length_eq_zero h
theorem lenS {vs : List Value} {n : Nat} (h : vs.length = n + 1) : ∃ v vs', vs = v :: vs' ∧ vs'.length = n := by
  cases vs with
  | nil => cases h
  | cons v vs => exact ⟨v, vs, rfl, Nat.succ.inj h⟩
theorem len1 {vs : List Value} (h : vs.length = 1) : ∃ a0, vs = [a0] := by
  obtain ⟨v, l, rfl, h1⟩ := lenS h
  exact ⟨v, by rw [len0 h1]⟩
theorem len2 {vs : List Value} (h : vs.length = 2) : ∃ a0 a1, vs = [a0, a1] := by
  obtain ⟨v, l, rfl, h1⟩ := lenS h
  obtain ⟨b0, rfl⟩ := len1 h1
  exact ⟨v, b0, rfl⟩
theorem len3 {vs : List Value} (h : vs.length = 3) : ∃ a0 a1 a2, vs = [a0, a1, a2] := by
  obtain ⟨v, l, rfl, h1⟩ := lenS h
  obtain ⟨b0, b1, rfl⟩ := len2 h1
  exact ⟨v, b0, b1, rfl⟩
theorem len4 {vs : List Value} (h : vs.length = 4) : ∃ a0 a1 a2 a3, vs = [a0, a1, a2, a3] := by
  obtain ⟨v, l, rfl, h1⟩ := lenS h
  obtain ⟨b0, b1, b2, rfl⟩ := len3 h1
  exact ⟨v, b0, b1, b2, rfl⟩
theorem len5 {vs : List Value} (h : vs.length = 5) : ∃ a0 a1 a2 a3 a4, vs = [a0, a1, a2, a3, a4] := by
  obtain ⟨v, l, rfl, h1⟩ := lenS h
  obtain ⟨b0, b1, b2, b3, rfl⟩ := len4 h1
  exact ⟨v, b0, b1, b2, b3, rfl⟩
theorem len6 {vs : List Value} (h : vs.length = 6) : ∃ a0 a1 a2 a3 a4 a5, vs = [a0, a1, a2, a3, a4, a5] := by
  obtain ⟨v, l, rfl, h1⟩ := lenS h
  obtain ⟨b0, b1, b2, b3, b4, rfl⟩ := len5 h1
  exact ⟨v, b0, b1, b2, b3, b4, rfl⟩
theorem len7 {vs : List Value} (h : vs.length = 7) : ∃ a0 a1 a2 a3 a4 a5 a6, vs = [a0, a1, a2, a3, a4, a5, a6] := by
  obtain ⟨v, l, rfl, h1⟩ := lenS h
  obtain ⟨b0, b1, b2, b3, b4, b5, rfl⟩ := len6 h1
  exact ⟨v, b0, b1, b2, b3, b4, b5, rfl⟩
theorem len8 {vs : List Value} (h : vs.length = 8) : ∃ a0 a1 a2 a3 a4 a5 a6 a7, vs = [a0, a1, a2, a3, a4, a5, a6, a7] := by
  obtain ⟨v, l, rfl, h1⟩ := lenS h
  obtain ⟨b0, b1, b2, b3, b4, b5, b6, rfl⟩ := len7 h1
  exact ⟨v, b0, b1, b2, b3, b4, b5, b6, rfl⟩
theorem fk_84 (P : Params) : FnK (heap P) 84 (nth 5) (S "add_name") ["report", "table", "name", "what", "at", "info"] (.ref 83) :=
  ⟨by kernel_rfl, by kernel_rfl, S "add_name", argsOf (nth 5), .none, .none, .none, .str (S "gateloom.checknames") 187, .none, .type "function", none, none, #[], by kernel_rfl, fun vs h => by
    obtain ⟨a0, a1, a2, a3, a4, a5, rfl⟩ := len6 h
    kernel_rfl⟩
theorem fk_98 (P : Params) : FnK (heap P) 98 (nth 7) (S "add_port") ["report", "table", "name", "at", "direction", "in_routine"] (.ref 97) :=
  ⟨by kernel_rfl, by kernel_rfl, S "add_port", argsOf (nth 7), .none, .none, .none, .str (S "gateloom.checknames") 187, .none, .type "function", none, none, #[], by kernel_rfl, fun vs h => by
    obtain ⟨a0, a1, a2, a3, a4, a5, rfl⟩ := len6 h
    kernel_rfl⟩
theorem fk_112 (P : Params) : FnK (heap P) 112 (nth 9) (S "declare_item") ["report", "table", "item", "in_routine"] (.ref 111) :=
  ⟨by kernel_rfl, by kernel_rfl, S "declare_item", argsOf (nth 9), .none, .none, .none, .str (S "gateloom.checknames") 187, .none, .type "function", none, none, #[], by kernel_rfl, fun vs h => by
    obtain ⟨a0, a1, a2, a3, rfl⟩ := len4 h
    kernel_rfl⟩
theorem fk_119 (P : Params) : FnK (heap P) 119 (nth 10) (S "check_expr") ["report", "table", "e"] (.ref 118) :=
  ⟨by kernel_rfl, by kernel_rfl, S "check_expr", argsOf (nth 10), .none, .none, .none, .str (S "gateloom.checknames") 187, .none, .type "function", none, none, #[], by kernel_rfl, fun vs h => by
    obtain ⟨a0, a1, a2, rfl⟩ := len3 h
    kernel_rfl⟩
theorem fk_133 (P : Params) : FnK (heap P) 133 (nth 12) (S "check_optional") ["report", "table", "e"] (.ref 132) :=
  ⟨by kernel_rfl, by kernel_rfl, S "check_optional", argsOf (nth 12), .none, .none, .none, .str (S "gateloom.checknames") 187, .none, .type "function", none, none, #[], by kernel_rfl, fun vs h => by
    obtain ⟨a0, a1, a2, rfl⟩ := len3 h
    kernel_rfl⟩
theorem fk_140 (P : Params) : FnK (heap P) 140 (nth 13) (S "check_range") ["report", "table", "bounds"] (.ref 139) :=
  ⟨by kernel_rfl, by kernel_rfl, S "check_range", argsOf (nth 13), .none, .none, .none, .str (S "gateloom.checknames") 187, .none, .type "function", none, none, #[], by kernel_rfl, fun vs h => by
    obtain ⟨a0, a1, a2, rfl⟩ := len3 h
    kernel_rfl⟩
theorem fk_161 (P : Params) : FnK (heap P) 161 (nth 16) (S "check_declaration") ["report", "table", "item"] (.ref 160) :=
  ⟨by kernel_rfl, by kernel_rfl, S "check_declaration", argsOf (nth 16), .none, .none, .none, .str (S "gateloom.checknames") 187, .none, .type "function", none, none, #[], by kernel_rfl, fun vs h => by
    obtain ⟨a0, a1, a2, rfl⟩ := len3 h
    kernel_rfl⟩
theorem fk_268 (P : Params) : FnK (heap P) 268 (nth 31) (S "level_codes") ["symbol"] (.ref 267) :=
  ⟨by kernel_rfl, by kernel_rfl, S "level_codes", argsOf (nth 31), .none, .none, .none, .str (S "gateloom.udps") 549, .none, .type "function", none, none, #[], by kernel_rfl, fun vs h => by
    obtain ⟨a0, rfl⟩ := len1 h
    kernel_rfl⟩
theorem fk_275 (P : Params) : FnK (heap P) 275 (nth 32) (S "is_edge") ["symbol"] (.ref 274) :=
  ⟨by kernel_rfl, by kernel_rfl, S "is_edge", argsOf (nth 32), .none, .none, .none, .str (S "gateloom.udps") 549, .none, .type "function", none, none, #[], by kernel_rfl, fun vs h => by
    obtain ⟨a0, rfl⟩ := len1 h
    kernel_rfl⟩
theorem fk_282 (P : Params) : FnK (heap P) 282 (nth 33) (S "edge_pairs") ["symbol"] (.ref 281) :=
  ⟨by kernel_rfl, by kernel_rfl, S "edge_pairs", argsOf (nth 33), .none, .none, .none, .str (S "gateloom.udps") 549, .none, .type "function", none, none, #[], by kernel_rfl, fun vs h => by
    obtain ⟨a0, rfl⟩ := len1 h
    kernel_rfl⟩
theorem fk_289 (P : Params) : FnK (heap P) 289 (nth 34) (S "edge_place") ["row"] (.ref 288) :=
  ⟨by kernel_rfl, by kernel_rfl, S "edge_place", argsOf (nth 34), .none, .none, .none, .str (S "gateloom.udps") 549, .none, .type "function", none, none, #[], by kernel_rfl, fun vs h => by
    obtain ⟨a0, rfl⟩ := len1 h
    kernel_rfl⟩
theorem fk_296 (P : Params) : FnK (heap P) 296 (nth 35) (S "edge_count") ["row"] (.ref 295) :=
  ⟨by kernel_rfl, by kernel_rfl, S "edge_count", argsOf (nth 35), .none, .none, .none, .str (S "gateloom.udps") 549, .none, .type "function", none, none, #[], by kernel_rfl, fun vs h => by
    obtain ⟨a0, rfl⟩ := len1 h
    kernel_rfl⟩
theorem fk_303 (P : Params) : FnK (heap P) 303 (nth 36) (S "check_primitive") ["p"] (.ref 302) :=
  ⟨by kernel_rfl, by kernel_rfl, S "check_primitive", argsOf (nth 36), .none, .none, .none, .str (S "gateloom.udps") 549, .none, .type "function", none, none, #[], by kernel_rfl, fun vs h => by
    obtain ⟨a0, rfl⟩ := len1 h
    kernel_rfl⟩
theorem fk_310 (P : Params) : FnK (heap P) 310 (nth 37) (S "row_faults") ["p", "row"] (.ref 309) :=
  ⟨by kernel_rfl, by kernel_rfl, S "row_faults", argsOf (nth 37), .none, .none, .none, .str (S "gateloom.udps") 549, .none, .type "function", none, none, #[], by kernel_rfl, fun vs h => by
    obtain ⟨a0, a1, rfl⟩ := len2 h
    kernel_rfl⟩
theorem fk_317 (P : Params) : FnK (heap P) 317 (nth 38) (S "rows_conflict") ["u", "v"] (.ref 316) :=
  ⟨by kernel_rfl, by kernel_rfl, S "rows_conflict", argsOf (nth 38), .none, .none, .none, .str (S "gateloom.udps") 549, .none, .type "function", none, none, #[], by kernel_rfl, fun vs h => by
    obtain ⟨a0, a1, rfl⟩ := len2 h
    kernel_rfl⟩
theorem fk_324 (P : Params) : FnK (heap P) 324 (nth 39) (S "share") ["left", "right"] (.ref 323) :=
  ⟨by kernel_rfl, by kernel_rfl, S "share", argsOf (nth 39), .none, .none, .none, .str (S "gateloom.udps") 549, .none, .type "function", none, none, #[], by kernel_rfl, fun vs h => by
    obtain ⟨a0, a1, rfl⟩ := len2 h
    kernel_rfl⟩
theorem fk_331 (P : Params) : FnK (heap P) 331 (nth 40) (S "out_code") ["out", "state"] (.ref 330) :=
  ⟨by kernel_rfl, by kernel_rfl, S "out_code", argsOf (nth 40), .none, .none, .none, .str (S "gateloom.udps") 549, .none, .type "function", none, none, #[], by kernel_rfl, fun vs h => by
    obtain ⟨a0, a1, rfl⟩ := len2 h
    kernel_rfl⟩
theorem fk_338 (P : Params) : FnK (heap P) 338 (nth 42) (S "declare_items") ["report", "table", "items"] (.ref 337) :=
  ⟨by kernel_rfl, by kernel_rfl, S "declare_items", argsOf (nth 42), .none, .none, .none, .str (S "gateloom.checks") 688, .none, .type "function", none, none, #[], by kernel_rfl, fun vs h => by
    obtain ⟨a0, a1, a2, rfl⟩ := len3 h
    kernel_rfl⟩
theorem fk_352 (P : Params) : FnK (heap P) 352 (nth 44) (S "declare_implicit") ["table", "item"] (.ref 351) :=
  ⟨by kernel_rfl, by kernel_rfl, S "declare_implicit", argsOf (nth 44), .none, .none, .none, .str (S "gateloom.checks") 688, .none, .type "function", none, none, #[], by kernel_rfl, fun vs h => by
    obtain ⟨a0, a1, rfl⟩ := len2 h
    kernel_rfl⟩
theorem fk_359 (P : Params) : FnK (heap P) 359 (nth 45) (S "add_implicit") ["table", "e"] (.ref 358) :=
  ⟨by kernel_rfl, by kernel_rfl, S "add_implicit", argsOf (nth 45), .none, .none, .none, .str (S "gateloom.checks") 688, .none, .type "function", none, none, #[], by kernel_rfl, fun vs h => by
    obtain ⟨a0, a1, rfl⟩ := len2 h
    kernel_rfl⟩
theorem fk_366 (P : Params) : FnK (heap P) 366 (nth 46) (S "check_items") ["report", "table", "items"] (.ref 365) :=
  ⟨by kernel_rfl, by kernel_rfl, S "check_items", argsOf (nth 46), .none, .none, .none, .str (S "gateloom.checks") 688, .none, .type "function", none, none, #[], by kernel_rfl, fun vs h => by
    obtain ⟨a0, a1, a2, rfl⟩ := len3 h
    kernel_rfl⟩
theorem fk_401 (P : Params) : FnK (heap P) 401 (nth 51) (S "check_instance") ["report", "table", "item"] (.ref 400) :=
  ⟨by kernel_rfl, by kernel_rfl, S "check_instance", argsOf (nth 51), .none, .none, .none, .str (S "gateloom.checks") 688, .none, .type "function", none, none, #[], by kernel_rfl, fun vs h => by
    obtain ⟨a0, a1, a2, rfl⟩ := len3 h
    kernel_rfl⟩
theorem fk_408 (P : Params) : FnK (heap P) 408 (nth 52) (S "check_module") ["module", "names"] (.ref 407) :=
  ⟨by kernel_rfl, by kernel_rfl, S "check_module", argsOf (nth 52), .none, .none, .none, .str (S "gateloom.checks") 688, .none, .type "function", none, none, #[], by kernel_rfl, fun vs h => by
    obtain ⟨a0, a1, rfl⟩ := len2 h
    kernel_rfl⟩
theorem fk_415 (P : Params) : FnK (heap P) 415 (nth 53) (S "is_port") ["entry"] (.ref 414) :=
  ⟨by kernel_rfl, by kernel_rfl, S "is_port", argsOf (nth 53), .none, .none, .none, .str (S "gateloom.checks") 688, .none, .type "function", none, none, #[], by kernel_rfl, fun vs h => by
    obtain ⟨a0, rfl⟩ := len1 h
    kernel_rfl⟩
theorem fk_422 (P : Params) : FnK (heap P) 422 (nth 54) (S "in_order") ["rows"] (.ref 421) :=
  ⟨by kernel_rfl, by kernel_rfl, S "in_order", argsOf (nth 54), .none, .none, .none, .str (S "gateloom.checks") 688, .none, .type "function", none, none, #[], by kernel_rfl, fun vs h => by
    obtain ⟨a0, rfl⟩ := len1 h
    kernel_rfl⟩
theorem fk_429 (P : Params) : FnK (heap P) 429 (nth 55) (S "check_source") ["modules"] (.ref 428) :=
  ⟨by kernel_rfl, by kernel_rfl, S "check_source", argsOf (nth 55), .none, .none, .none, .str (S "gateloom.checks") 688, .none, .type "function", none, none, #[], by kernel_rfl, fun vs h => by
    obtain ⟨a0, rfl⟩ := len1 h
    kernel_rfl⟩
theorem fk_434 (P : Params) : FnK (heap P) 434 (nth 57) (S "_law_feed") ["script"] (.ref 433) :=
  ⟨by kernel_rfl, by kernel_rfl, S "_law_feed", argsOf (nth 57), .none, .none, .none, .str (S "law_sj0060_01") 848, .none, .type "function", none, none, #[], by kernel_rfl, fun vs h => by
    obtain ⟨a0, rfl⟩ := len1 h
    kernel_rfl⟩
theorem fk_441 (P : Params) : FnK (heap P) 441 (nth 58) (S "_law_pick") ["feed", "many"] (.ref 440) :=
  ⟨by kernel_rfl, by kernel_rfl, S "_law_pick", argsOf (nth 58), .none, .none, .none, .str (S "law_sj0060_01") 848, .none, .type "function", none, none, #[], by kernel_rfl, fun vs h => by
    obtain ⟨a0, a1, rfl⟩ := len2 h
    kernel_rfl⟩
theorem fk_448 (P : Params) : FnK (heap P) 448 (nth 59) (S "_law_port") ["mark", "name"] (.ref 447) :=
  ⟨by kernel_rfl, by kernel_rfl, S "_law_port", argsOf (nth 59), .none, .none, .none, .str (S "law_sj0060_01") 848, .none, .type "function", none, none, #[], by kernel_rfl, fun vs h => by
    obtain ⟨a0, a1, rfl⟩ := len2 h
    kernel_rfl⟩
theorem fk_453 (P : Params) : FnK (heap P) 453 (nth 60) (S "_law_instance") ["mark", "unit", "name", "ends"] (.ref 452) :=
  ⟨by kernel_rfl, by kernel_rfl, S "_law_instance", argsOf (nth 60), .none, .none, .none, .str (S "law_sj0060_01") 848, .none, .type "function", none, none, #[], by kernel_rfl, fun vs h => by
    obtain ⟨a0, a1, a2, a3, rfl⟩ := len4 h
    kernel_rfl⟩
theorem fk_458 (P : Params) : FnK (heap P) 458 (nth 61) (S "_law_module") ["feed", "mark", "name"] (.ref 457) :=
  ⟨by kernel_rfl, by kernel_rfl, S "_law_module", argsOf (nth 61), .none, .none, .none, .str (S "law_sj0060_01") 848, .none, .type "function", none, none, #[], by kernel_rfl, fun vs h => by
    obtain ⟨a0, a1, a2, rfl⟩ := len3 h
    kernel_rfl⟩
theorem fk_465 (P : Params) : FnK (heap P) 465 (nth 62) (S "_law_tables") [] (.ref 464) :=
  ⟨by kernel_rfl, by kernel_rfl, S "_law_tables", argsOf (nth 62), .none, .none, .none, .str (S "law_sj0060_01") 848, .none, .type "function", none, none, #[], by kernel_rfl, fun vs h => by
    obtain rfl := len0 h
    kernel_rfl⟩
theorem fk_470 (P : Params) : FnK (heap P) 470 (nth 63) (S "_law_primitive_faults") ["unit", "which"] (.ref 469) :=
  ⟨by kernel_rfl, by kernel_rfl, S "_law_primitive_faults", argsOf (nth 63), .none, .none, .none, .str (S "law_sj0060_01") 848, .none, .type "function", none, none, #[], by kernel_rfl, fun vs h => by
    obtain ⟨a0, a1, rfl⟩ := len2 h
    kernel_rfl⟩
theorem fk_475 (P : Params) : FnK (heap P) 475 (nth 64) (S "_law_module_faults") ["unit", "first_ports"] (.ref 474) :=
  ⟨by kernel_rfl, by kernel_rfl, S "_law_module_faults", argsOf (nth 64), .none, .none, .none, .str (S "law_sj0060_01") 848, .none, .type "function", none, none, #[], by kernel_rfl, fun vs h => by
    obtain ⟨a0, a1, rfl⟩ := len2 h
    kernel_rfl⟩
theorem fk_28 (P : Params) : FnK (heap P) 28 (sub 1 0) (S "Report.__init__") ["self", "names", "nettype"] (.ref 27) :=
  ⟨by kernel_rfl, by kernel_rfl, S "__init__", argsOf (sub 1 0), .none, .none, .none, .str (S "gateloom.checknames") 187, .none, .type "function", none, none, #[], by kernel_rfl, fun vs h => by
    obtain ⟨a0, a1, a2, rfl⟩ := len3 h
    kernel_rfl⟩
theorem fk_35 (P : Params) : FnK (heap P) 35 (sub 1 1) (S "Report.add") ["self", "kind", "at", "detail"] (.ref 34) :=
  ⟨by kernel_rfl, by kernel_rfl, S "add", argsOf (sub 1 1), .none, .none, .none, .str (S "gateloom.checknames") 187, .none, .type "function", none, none, #[], by kernel_rfl, fun vs h => by
    obtain ⟨a0, a1, a2, a3, rfl⟩ := len4 h
    kernel_rfl⟩
theorem fk_56 (P : Params) : FnK (heap P) 56 (sub 2 0) (S "NameTable.__init__") ["self", "parent"] (.ref 55) :=
  ⟨by kernel_rfl, by kernel_rfl, S "__init__", argsOf (sub 2 0), .none, .none, .none, .str (S "gateloom.checknames") 187, .none, .type "function", none, none, #[], by kernel_rfl, fun vs h => by
    obtain ⟨a0, a1, rfl⟩ := len2 h
    kernel_rfl⟩
theorem fk_254 (P : Params) : FnK (heap P) 254 (sub 30 0) (S "Primitive.__init__") ["self", "name", "at", "output", "inputs", "sequential", "init", "rows"] (.ref 253) :=
  ⟨by kernel_rfl, by kernel_rfl, S "__init__", argsOf (sub 30 0), .none, .none, .none, .str (S "gateloom.udps") 549, .none, .type "function", none, none, #[], by kernel_rfl, fun vs h => by
    obtain ⟨a0, a1, a2, a3, a4, a5, a6, a7, rfl⟩ := len8 h
    kernel_rfl⟩
noncomputable def kit (P : Params) : Kit (heap P) where
  len_ := by kernel_rfl
  range_ := by kernel_rfl
  tuple_ := by kernel_rfl
  list_ := by kernel_rfl
  int_ := by kernel_rfl
  abs_ := by kernel_rfl
  sum_ := by kernel_rfl
  sorted_ := by kernel_rfl
  isinstance_ := by kernel_rfl
  Report := 38
  reportN := by kernel_rfl
  reportK := by kernel_rfl
  reportI := 28
  reportIcd := .ref 27
  reportC := ⟨by kernel_rfl, by kernel_rfl, by kernel_rfl⟩
  reportF := fk_28 P
  reportS := fun x hx => by
    simp only [List.mem_cons, List.not_mem_nil, or_false] at hx
    rcases hx with rfl | rfl | rfl
    · exact ⟨⟨by kernel_rfl, by kernel_rfl, by kernel_rfl, by kernel_rfl⟩, by kernel_rfl, by kernel_rfl, none, by kernel_rfl, by kernel_rfl⟩
    · exact ⟨⟨by kernel_rfl, by kernel_rfl, by kernel_rfl, by kernel_rfl⟩, by kernel_rfl, by kernel_rfl, none, by kernel_rfl, by kernel_rfl⟩
    · exact ⟨⟨by kernel_rfl, by kernel_rfl, by kernel_rfl, by kernel_rfl⟩, by kernel_rfl, by kernel_rfl, none, by kernel_rfl, by kernel_rfl⟩
  reportA := ⟨35, .ref 34, ⟨by kernel_rfl, by kernel_rfl, by kernel_rfl, by kernel_rfl⟩, fk_35 P⟩
  NameTable := 59
  tableN := by kernel_rfl
  tableK := by kernel_rfl
  tableI := 56
  tableIcd := .ref 55
  tableC := ⟨by kernel_rfl, by kernel_rfl, by kernel_rfl⟩
  tableF := fk_56 P
  tableS := fun x hx => by
    simp only [List.mem_cons, List.not_mem_nil, or_false] at hx
    rcases hx with rfl | rfl
    · exact ⟨⟨by kernel_rfl, by kernel_rfl, by kernel_rfl, by kernel_rfl⟩, by kernel_rfl, by kernel_rfl, none, by kernel_rfl, by kernel_rfl⟩
    · exact ⟨⟨by kernel_rfl, by kernel_rfl, by kernel_rfl, by kernel_rfl⟩, by kernel_rfl, by kernel_rfl, none, by kernel_rfl, by kernel_rfl⟩
  Primitive := 257
  primN := by kernel_rfl
  primK := by kernel_rfl
  primI := 254
  primIcd := .ref 253
  primC := ⟨by kernel_rfl, by kernel_rfl, by kernel_rfl⟩
  primF := fk_254 P
  primS := fun x hx => by
    simp only [List.mem_cons, List.not_mem_nil, or_false] at hx
    rcases hx with rfl | rfl | rfl | rfl | rfl | rfl | rfl
    · exact ⟨⟨by kernel_rfl, by kernel_rfl, by kernel_rfl, by kernel_rfl⟩, by kernel_rfl, by kernel_rfl, none, by kernel_rfl, by kernel_rfl⟩
    · exact ⟨⟨by kernel_rfl, by kernel_rfl, by kernel_rfl, by kernel_rfl⟩, by kernel_rfl, by kernel_rfl, none, by kernel_rfl, by kernel_rfl⟩
    · exact ⟨⟨by kernel_rfl, by kernel_rfl, by kernel_rfl, by kernel_rfl⟩, by kernel_rfl, by kernel_rfl, none, by kernel_rfl, by kernel_rfl⟩
    · exact ⟨⟨by kernel_rfl, by kernel_rfl, by kernel_rfl, by kernel_rfl⟩, by kernel_rfl, by kernel_rfl, none, by kernel_rfl, by kernel_rfl⟩
    · exact ⟨⟨by kernel_rfl, by kernel_rfl, by kernel_rfl, by kernel_rfl⟩, by kernel_rfl, by kernel_rfl, none, by kernel_rfl, by kernel_rfl⟩
    · exact ⟨⟨by kernel_rfl, by kernel_rfl, by kernel_rfl, by kernel_rfl⟩, by kernel_rfl, by kernel_rfl, none, by kernel_rfl, by kernel_rfl⟩
    · exact ⟨⟨by kernel_rfl, by kernel_rfl, by kernel_rfl, by kernel_rfl⟩, by kernel_rfl, by kernel_rfl, none, by kernel_rfl, by kernel_rfl⟩
  primY := by kernel_rfl
  primT := by kernel_rfl
  add_name := ⟨84, .ref 83, by kernel_rfl, fk_84 P⟩
  add_port := ⟨98, .ref 97, by kernel_rfl, fk_98 P⟩
  declare_item := ⟨112, .ref 111, by kernel_rfl, fk_112 P⟩
  check_expr := ⟨119, .ref 118, by kernel_rfl, fk_119 P⟩
  check_optional := ⟨133, .ref 132, by kernel_rfl, fk_133 P⟩
  check_range := ⟨140, .ref 139, by kernel_rfl, fk_140 P⟩
  check_declaration := ⟨161, .ref 160, by kernel_rfl, fk_161 P⟩
  level_codes := ⟨268, .ref 267, by kernel_rfl, fk_268 P⟩
  is_edge := ⟨275, .ref 274, by kernel_rfl, fk_275 P⟩
  edge_pairs := ⟨282, .ref 281, by kernel_rfl, fk_282 P⟩
  edge_place := ⟨289, .ref 288, by kernel_rfl, fk_289 P⟩
  edge_count := ⟨296, .ref 295, by kernel_rfl, fk_296 P⟩
  check_primitive := ⟨303, .ref 302, by kernel_rfl, fk_303 P⟩
  row_faults := ⟨310, .ref 309, by kernel_rfl, fk_310 P⟩
  rows_conflict := ⟨317, .ref 316, by kernel_rfl, fk_317 P⟩
  share := ⟨324, .ref 323, by kernel_rfl, fk_324 P⟩
  out_code := ⟨331, .ref 330, by kernel_rfl, fk_331 P⟩
  declare_items := ⟨338, .ref 337, by kernel_rfl, fk_338 P⟩
  declare_implicit := ⟨352, .ref 351, by kernel_rfl, fk_352 P⟩
  add_implicit := ⟨359, .ref 358, by kernel_rfl, fk_359 P⟩
  check_items := ⟨366, .ref 365, by kernel_rfl, fk_366 P⟩
  check_instance := ⟨401, .ref 400, by kernel_rfl, fk_401 P⟩
  check_module := ⟨408, .ref 407, by kernel_rfl, fk_408 P⟩
  is_port := ⟨415, .ref 414, by kernel_rfl, fk_415 P⟩
  in_order := ⟨422, .ref 421, by kernel_rfl, fk_422 P⟩
  check_source := ⟨429, .ref 428, by kernel_rfl, fk_429 P⟩
  law_feed := ⟨434, .ref 433, by kernel_rfl, fk_434 P⟩
  law_pick := ⟨441, .ref 440, by kernel_rfl, fk_441 P⟩
  law_port := ⟨448, .ref 447, by kernel_rfl, fk_448 P⟩
  law_instance := ⟨453, .ref 452, by kernel_rfl, fk_453 P⟩
  law_module := ⟨458, .ref 457, by kernel_rfl, fk_458 P⟩
  law_tables := ⟨465, .ref 464, by kernel_rfl, fk_465 P⟩
  law_primitive_faults := ⟨470, .ref 469, by kernel_rfl, fk_470 P⟩
  law_module_faults := ⟨475, .ref 474, by kernel_rfl, fk_475 P⟩
  tabP := 417
  tabC := 421
  tabE := by kernel_rfl
  tabH := by kernel_rfl
end Mine
namespace Mine
noncomputable def posOf : Stmt → Pos
  | .FunctionDef _ _ _ _ _ _ _ _ _ p => p
  | _ => ⟨0, 0, 0, 0⟩
noncomputable def lawD : DefRec := { name := S "law", params := argsOf (nth 65), body := bodyOf (nth 65), scope := scOf (nth 65), pos := posOf (nth 65) }
theorem hdef : defOf view (S "law") = some (lawD, []) := by kernel_rfl
end Mine
namespace Mine
theorem vrs_of : ∀ {xs : List Int} {vs : List Value}, IntsAre vs xs → VRs (xs.map AV.int) vs
  | _, _, .nil => .nil
  | _, _, .cons i t h => .cons (.int i t) (vrs_of h)
theorem walk : WalkO view lose (XL view []) (Hook.says hook) PySem.Challenge.rw_sj0060_01.row.toRowW lawD [] (fun f vs => PySem.call f vs) := by
  intro w s₀ s₁ mg mb G Y fa o pm cd doc dV kV ho hd hcd hD hmg hg args vals as hpre hlay hrd hwl hlo
  have X := km_in_of Y
  have hT8 := km_tabs_of Y
  refine Ground.open G ?_
  intro T B D TE TW
  have hT9 : TabsAt [(421, 417)] _ := List.forall_mem_cons.mpr ⟨⟨codeHd_of_K (c := 421) (P := 417) X (by kernel_rfl), hT8 417 (by simp)⟩, fun _ h => nomatch h⟩
  wrow_args hpre hlay hrd hwl hlo
  rename_i is hs1 hs2 hs3 hs4 hs5 as1 as2 Sa us as3 hL ra w1 r0 hI hr hlen ht
  refine enter_call ?_
  refine kn_post hT9 (fun _ _ => rfl) ?_
  w_top on
  w_call any ho hd hcd hD T F
  rename_i h₁ N0
  have X' := ghost_K hT9 X (by kernel_rfl)
  have T' := ghost_top hT9 T
  have K' := ghost_below hT9
  have N' := ghost_news hT9 F N0
  have F' := ghost_fr hT9 F
  have hL' := ghost_list hT9 hL
  have l0 : 417 < s₁.heap.objs.size := ghost_lt hT9 F (417, tabObj #[]) (.head _)
  let c : Fn := ⟨⟨ghostOf s₁.heap [(421, 417)], ghostOf s₁.heap [(421, 417)], s₁.heap.objs.size, callerA.deeper (envOf lawD.name lawD.scope s₁.heap.objs.size fa cd), callerA, [], envOf lawD.name lawD.scope s₁.heap.objs.size fa cd, topProg, looseW view lose ++ (recsOf view).map (·.name) ++ (litsOf view).map (·.1) ++ (clssOf view (looseW view lose)).map (·.name), ExcName.means s₀.heap, mg, mb, 8⟩, S "law", fa, cd⟩
  have Oc : (c.fm (scOf (nth 65)) none).Ok (heap w.params) :=
    { B := K', X := X', T := T', hh := rfl, hf := rfl, hL := rfl, hke := rfl, hd := Nat.le_of_ble_eq_true rfl, hu := Nat.le_of_ble_eq_true rfl, gl := rfl, bl := rfl, ek := rfl, mono := fun mh own m m' h hm => nr_mono (cl := none) (m := m) h hm }
  have S0 : St PySem.Challenge.rw_sj0060_01.row.prog w (c.fm (scOf (nth 65)) none) [] (upd (fun _ => none) 417 (.tab #[])) [(S "script", .ref Sa)] h₁ := by
    refine ⟨_, [], ⟨⟨rfl, fun y v e => ?_⟩, fun p hp => nomatch hp⟩, _, F', N', fun p hp => (nomatch hp), fun a o e => ?_, ?_, fun a o e => ?_⟩
    · unfold Mine.get at e
      by_cases q : S "script" = y
      · rw [if_pos q] at e; cases e
        subst q
        exact ⟨.ref Sa, by kernel_rfl, .ref Sa⟩
      · rw [if_neg q] at e; cases e
    · unfold upd at e
      by_cases q : a = 417
      · rw [if_pos q] at e; cases e
        subst q
        exact ⟨tabObj #[], .head _, .tab #[]⟩
      · rw [if_neg q] at e; cases e
    · show sysModules < (ghostOf s₁.heap [(421, 417)]).objs.size
      rw [hideAll_size]
      exact Nat.lt_trans (by decide +kernel) l0
    · unfold upd at e
      by_cases q : a = 417
      · subst q; decide +kernel
      · rw [if_neg q] at e; cases e
  have hz : is.length ≤ 63 := by omega
  refine law_body (kit w.params) Oc (show 7 ≤ 8 by decide) hL' (vrs_of hI) hz (.inl upd_self) rfl [] _ _ _ S0 fun x y h' tk σ' m' r S' q => ?_
  obtain ⟨q1, q2⟩ := q
  obtain ⟨o', ho'⟩ := q2.at
  obtain ⟨mh', own', n', news', F2, N2, z2, z3, zb, z4⟩ := S'
  obtain ⟨ro, hro, hor⟩ := z3 _ _ ho'
  have hget := (N2 _ hro).1
  cases y with
  | next => cases q1
  | brk => cases q1
  | cont => cases q1
  | ret v =>
    cases q1
    cases r with
    | ret r =>
      cases r
      refine ⟨goodW_bool F2 hg (fun _ => rfl) ?_, ?_, trivial⟩
      · kernel_rfl
      · cases hor with
        | tab ps => exact ⟨_, hget⟩
end Mine
namespace Mine
theorem bids : PySem.Challenge.rw_sj0060_01.row.toRowW.promised := ⟨[.list [.int 3, .int 1]], by decide +kernel, by decide +kernel⟩
theorem oks1 : chainsOk view = true := by kernel_rfl
theorem oks2 : opensWell PySem.Challenge.rw_sj0060_01.row.prog = true := by kernel_rfl
theorem oks3 : (frees PySem.Challenge.rw_sj0060_01.row.toRowW && PySem.Challenge.rw_sj0060_01.row.within.isEmpty) = true := by kernel_rfl
theorem open_ok : (chainsOk view && opensWell PySem.Challenge.rw_sj0060_01.row.prog && (frees PySem.Challenge.rw_sj0060_01.row.toRowW && PySem.Challenge.rw_sj0060_01.row.within.isEmpty)) = true := look_both (look_both oks1 oks2) oks3

theorem hp0 : PySem.Challenge.rw_sj0060_01.row.prog.theDef PySem.Challenge.rw_sj0060_01.row.name = some (lawD.params, lawD.body, lawD.scope) := by kernel_rfl
theorem hk0 : kwWritten? lawD.params.kwonlyargs lawD.params.kw_defaults = some [] := by rfl
theorem hb0 : PySem.Challenge.rw_sj0060_01.row.prog.bare := ⟨rfl, rfl, rfl, rfl, rfl, by decide +kernel⟩
theorem hd0 : defOf view PySem.Challenge.rw_sj0060_01.row.name = some (lawD, []) := hdef
theorem lf0 : LeftO PySem.Challenge.rw_sj0060_01.row.prog view lose (fun s => xlAt view [] s && recOk [] s) (Hook.obs hook) (Hook.val hook) 5378 := left
theorem rowH (said : PySem.Challenge.rw_sj0060_01.row.wellSaid = true) : PySem.Challenge.rw_sj0060_01.row.Holds :=
  PySem.W.holds_open (r := PySem.Challenge.rw_sj0060_01.row) (q := view) (loose := lose) (Xt := fun s => xlAt view [] s && recOk [] s) (XP := XL view []) (Yf := Hook.obs hook) (Ya := Hook.val hook) (YP := Hook.says hook) (N := 5378) lf0
    (Hook.of hook) (Hook.keeps hook) (fun s e => xl_of s (Bool.and_eq_true_iff.mp e).1) XL.keeps hd0 hp0 hk0 (fun s e => recFacts_of (Bool.and_eq_true_iff.mp e).2) (by rfl) said open_ok hb0 bids walk
end Mine
theorem PySem.Challenge.cw_sj0060_01_holds : PySem.Challenge.rw_sj0060_01.Holds :=
  holds_law Mine.said Mine.rowH
