import PyProof.Rows.All
import Wide.All
import Open.Line
import OpenK.KList
import Wide.FinOn
import PySem.Challenge.RW_no0168_01
set_option Elab.async false
set_option maxRecDepth 100000
set_option maxHeartbeats 8000000
set_option autoImplicit false
set_option genSizeOf false
set_option linter.unusedSimpArgs false
set_option linter.unusedVariables false
namespace Mine
open PySem
/-! the heap never shrinks -/
theorem runs_size {M : Model} {Γ : Ctx} {p : Pos} {t : Sem Fin} {fs : List Frame} {s s' : Shared} {e : End} (h : Runs M Γ p t fs s e s') : s.heap.objs.size ≤ s'.heap.objs.size := by
  induction h <;> (try simp only [Shared.setGen, Heap.size_push, Heap.size_after_update] at *) <;> omega
theorem wakes_size {M : Model} {Γ : Ctx} {p : Pos} {g : Nat} {r : Resume} {s s' : Shared} {res : GenResult} (h : Wakes M Γ p g r s res s') : s.heap.objs.size ≤ s'.heap.objs.size := by
  unfold Wakes at h
  split at h
  · exact h.elim
  · split at h
    · obtain ⟨e₁, s₁, hr, _, _, rfl⟩ := h; exact (runs_size hr : (s.setGen g .running).heap.objs.size ≤ s₁.heap.objs.size)
    · rw [h.2]; exact Nat.le_refl _
    · rw [h.2]; exact Nat.le_refl _
  · obtain ⟨e₁, s₁, hr, _, _, rfl⟩ := h; exact (runs_size hr : (s.setGen g .running).heap.objs.size ≤ s₁.heap.objs.size)
  · rw [h.2]; exact Nat.le_refl _
  · rw [h.2]; exact Nat.le_refl _
theorem wp_size {α : Type} (M : Model) (Γ : Ctx) (n : Nat) (t : Sem α) : ∀ (Q : α → Pos → Shared → Prop) (E : Value → Pos → Shared → Prop) (p : Pos) (s : Shared), n ≤ s.heap.objs.size → Sem.wp M Γ t Q E p s →
    Sem.wp M Γ t (fun a p' s' => n ≤ s'.heap.objs.size ∧ Q a p' s') E p s := by
  induction t with
  | pure a => intro Q E p s hn h; exact ⟨hn, h⟩
  | raise e => intro Q E p s hn h; exact h
  | unsupported _ => intro Q E p s _ h; exact h
  | finish _ => intro Q E p s _ h; exact h
  | rule _ k ih => intro Q E p s hn h; exact ih () Q E p s hn h
  | «at» p' k ih => intro Q E p s hn h; exact ih () Q E p' s hn h
  | load a _ k ih => intro Q E p s hn h; obtain ⟨o, ho, h⟩ := h; exact ⟨o, ho, ih o Q E p s hn h⟩
  | update a _ f k ih => intro Q E p s hn h; exact ⟨h.1, ih () Q E p _ (by show n ≤ (s.heap.update a f).objs.size; rw [Heap.size_after_update]; exact hn) h.2⟩
  | loadIfAlive a k ih => intro Q E p s hn h; exact ih _ Q E p s hn h
  | point _ k ih => intro Q E p s hn h; exact ih () Q E p s hn h
  | register _ _ => intro Q E p s _ h; exact h
  | alloc o k ih => intro Q E p s hn h; exact ih _ Q E p _ (by show n ≤ (s.heap.push o).objs.size; rw [Heap.size_push]; exact Nat.le_succ_of_le hn) h
  | fresh k ih => intro Q E p s hn h; exact ih _ Q E p _ hn h
  | ask k ih => intro Q E p s hn h; exact ih _ Q E p s hn h
  | choose src m k ih => intro Q E p s hn h; exact ⟨h.1, ih _ Q E p _ hn h.2⟩
  | os q _ k ih => intro Q E p s hn h; exact ih _ Q E p _ hn h
  | call c hd _ _ k ih => intro Q E p s hn h; obtain ⟨r, s', hr, h⟩ := h; exact ⟨r, s', hr, ih r Q E p s' (Nat.le_trans hn (runs_size hr)) h⟩
  | handled own k ih => intro Q E p s hn h; exact ih _ Q E p s hn h
  | genState g k ih => intro Q E p s hn h; obtain ⟨st, hs, h⟩ := h; exact ⟨st, hs, ih _ Q E p s hn h⟩
  | newGen c k ih => intro Q E p s hn h; exact ih _ Q E p _ hn h
  | resume g r _ k ih => intro Q E p s hn h; obtain ⟨res, s', hw, h⟩ := h; exact ⟨res, s', hw, ih res Q E p s' (Nat.le_trans hn (wakes_size hw)) h⟩
  | yield _ _ _ _ => intro Q E p s _ h; exact h
  | stack k ih => intro Q E p s hn h; exact ih _ Q E p s hn h
  | fork _ _ => intro Q E p s _ h; exact h
  | thread k ih => intro Q E p s hn h; exact ih _ Q E p s hn h
  | await _ _ _ _ _ => intro Q E p s _ h; exact h
theorem with_size {α : Type} {M : Model} {A : Around} {s : Shared} {t : Sem α} {Q : α → Shared → Prop} {E : Value → Shared → Prop} (h : wpAny M A t (fun a s' => s.heap.objs.size ≤ s'.heap.objs.size → Q a s') E s) : wpAny M A t Q E s :=
  fun Γ p hΓ => Sem.wp_mono M Γ t (fun _ _ _ x => x.2 x.1) (fun _ _ _ x => x) p s (wp_size M Γ _ t _ _ p s (Nat.le_refl _) (h Γ p hΓ))
open PySem.W PySem.Calls PyProof.Rows
noncomputable def topS : List Stmt := Challenge.pw_no0168_01.main.body
noncomputable def nthS : List Stmt → Nat → Stmt
  | s :: _, 0 => s
  | _ :: r, n + 1 => nthS r n
  | [], _ => .Pass default
noncomputable def pick (i : Nat) : Stmt := nthS topS i
noncomputable def pickIn (i j : Nat) : Stmt := match pick i with
  | .ClassDef _ _ _ b _ _ _ _ _ _ _ => nthS b j
  | _ => .Pass default
noncomputable def fnO (s : Stmt) (q mod : Str) (t : Tok) (code : Addr) : Obj := match s with
  | .FunctionDef n a b _ _ _ sc _ _ _ => { cls := .type "function", data := .func { name := n, qualname := q, params := a, body := .stmts b, scope := sc, globals := 3, closure := [], defaults := .none, kwdefaults := .none, pyModule := .str mod t, code := .ref code } }
  | _ => default
noncomputable def coO (n : Str) (t1 : Tok) (q : Str) (t2 t3 : Tok) (i1 i2 i3 i4 i5 : Int) (r1 : Value) (i6 : Int) (r2 r3 r4 r5 r6 : Value) (i7 i8 : Int) (t4 : Tok) : Obj :=
  { cls := .type "code", data := .fields #[.str n t1, .str q t2, .str "/claim/cut.py" t3, .int i1 0, .int i2 0, .int i3 0, .int i4 0, .int i5 0, r1, .bool true, .int i6 0, r2, r3, r4, r5, r6, .int i7 0, .int i8 0, .str "/claim/cut.py" t4] }
noncomputable def ent (P : Params) (k : Str) (t : Tok) (v : Value) : DictEntry := { hash := PyData.keyHash P k, key := .str k t, val := v }
noncomputable def K (P : Params) : Frag :=
  [(3, { cls := Value.type "dict", data := Data.dict #[ent P "__name__" 165 (Value.str ("law_no0168_01") 715), ent P "__doc__" 166 (Value.none), ent P "__package__" 167 (Value.none), ent P "__loader__" 168 (Value.builtin "__main__.__loader__#opaque"), ent P "__spec__" 169 (Value.none), ent P "__annotations__" 170 (Value.ref 6), ent P "__builtins__" 171 (Value.ref 4), ent P "__file__" 173 (Value.str ("/claim/cut.py") 172), ent P "__cached__" 174 (Value.none), ent P "_wall" 193 (Value.ref 21), ent P "ClausemillError" 215 (Value.ref 31), ent P "LinkFault" 241 (Value.ref 52), ent P "F_MINUS1" 243 (Value.int 12 242), ent P "F_MINUS" 245 (Value.int 13 244), ent P "F_PLUS" 247 (Value.int 14 246), ent P "fixed_atoms" 253 (Value.ref 61), ent P "fixed_functors" 259 (Value.ref 68), ent P "Symbols" 380 (Value.ref 155), ent P "CON" 382 (Value.int 4 381), ent P "INT" 384 (Value.int 5 383), ent P "VAR_KEY" 388 (Value.ref 160), ent P "LIST_KEY" 390 (Value.ref 161), ent P "FAIL_LABEL" 393 (Value.int (-1) 392), ent P "const_key" 400 (Value.ref 168), ent P "struct_key" 407 (Value.ref 175), ent P "matching" 415 (Value.ref 182), ent P "candidates" 425 (Value.ref 189), ent P "all_variable" 433 (Value.ref 196), ent P "BlockBuilder" 555 (Value.ref 269), ent P "small_block" 562 (Value.ref 280), ent P "chain_block" 573 (Value.ref 287), ent P "index_block" 583 (Value.ref 294), ent P "clause_groups" 593 (Value.ref 301), ent P "group_block" 608 (Value.ref 308), ent P "label_places" 617 (Value.ref 315), ent P "switch_target" 626 (Value.ref 322), ent P "table_target" 635 (Value.ref 329), ent P "tried_clauses" 651 (Value.ref 336), ent P "sample_keys" 663 (Value.ref 343), ent P "check_index" 669 (Value.ref 348), ent P "leaves_choice" 677 (Value.ref 355), ent P "ClauseCode" 714 (Value.ref 372), ent P "_law_row" 727 (Value.ref 383), ent P "_law_next" 734 (Value.ref 390), ent P "_law_key" 742 (Value.ref 397), ent P "_law_matches" 750 (Value.ref 404), ent P "_law_target" 760 (Value.ref 411), ent P "_law_visits" 779 (Value.ref 418), ent P "_law_spoiled" 785 (Value.ref 423), ent P "_law_checked" 791 (Value.ref 428), ent P "law" 797 (Value.ref 433)] 51 }),
   (60, coO "fixed_atoms" 248 "fixed_atoms" 249 250 14 0 0 0 3 (.ref 55) 181 (.ref 56) .none (.ref 57) (.ref 58) (.ref 59) 251 14 252),
   (61, fnO (pick 7) "fixed_atoms" "clausemill.symbols" 194 60),
   (67, coO "fixed_functors" 254 "fixed_functors" 255 256 16 0 0 0 3 (.ref 62) 181 (.ref 63) .none (.ref 64) (.ref 65) (.ref 66) 257 16 258),
   (68, fnO (pick 8) "fixed_functors" "clausemill.symbols" 194 67),
   (81, coO "__init__" 272 "Symbols.__init__" 273 274 20 1 0 0 3 (.ref 76) 181 (.ref 77) .none (.ref 78) (.ref 79) (.ref 80) 278 20 279),
   (82, fnO (pickIn 9 0) "Symbols.__init__" "clausemill.symbols" 194 81),
   (88, coO "atom" 281 "Symbols.atom" 282 283 30 2 0 0 3 (.ref 83) 181 (.ref 84) .none (.ref 85) (.ref 86) (.ref 87) 288 30 289),
   (89, fnO (pickIn 9 1) "Symbols.atom" "clausemill.symbols" 194 88),
   (102, coO "functor" 299 "Symbols.functor" 300 301 42 3 0 0 3 (.ref 97) 181 (.ref 98) .none (.ref 99) (.ref 100) (.ref 101) 308 42 309),
   (103, fnO (pickIn 9 3) "Symbols.functor" "clausemill.symbols" 194 102),
   (109, coO "func" 311 "Symbols.func" 312 313 52 3 0 0 3 (.ref 104) 181 (.ref 105) .none (.ref 106) (.ref 107) (.ref 108) 317 52 318),
   (110, fnO (pickIn 9 4) "Symbols.func" "clausemill.symbols" 194 109),
   (123, coO "arity" 328 "Symbols.arity" 329 330 58 2 0 0 3 (.ref 118) 181 (.ref 119) .none (.ref 120) (.ref 121) (.ref 122) 333 58 334),
   (124, fnO (pickIn 9 6) "Symbols.arity" "clausemill.symbols" 194 123),
   (154, { cls := Value.type "dict", data := Data.dict #[ent P "__module__" 267 (Value.str ("clausemill.symbols") 194), ent P "__firstlineno__" 271 (Value.int 18 270), ent P "__init__" 280 (Value.ref 82), ent P "atom" 290 (Value.ref 89), ent P "text" 298 (Value.ref 96), ent P "functor" 310 (Value.ref 103), ent P "func" 319 (Value.ref 110), ent P "name" 327 (Value.ref 117), ent P "arity" 335 (Value.ref 124), ent P "label" 344 (Value.ref 131), ent P "count" 351 (Value.ref 138), ent P "functor_count" 358 (Value.ref 145), ent P "known" 368 (Value.ref 152), ent P "__static_attributes__" 373 (Value.ref 153), ent P "__dict__" 375 (Value.ref 156), ent P "__weakref__" 377 (Value.ref 157), ent P "__doc__" 378 (Value.none)] 4 }),
   (155, { cls := Value.type "type", data := Data.cls { name := "Symbols", bases := [Value.type "object"], mro := [Value.ref 155, Value.type "object"], ns := 154, qualname := "Symbols" }, slots := #[none, none, some (Value.str ("Symbols") 260), some (Value.str ("Symbols") 268), some (Value.builtin "object.__new__"), some (Value.bool true)] }),
   (160, { cls := Value.type "tuple", data := Data.seq #[Value.str ("var") 387] }),
   (161, { cls := Value.type "tuple", data := Data.seq #[Value.str ("list") 389] }),
   (167, coO "const_key" 394 "const_key" 395 396 82 1 0 0 3 (.ref 162) 181 (.ref 163) .none (.ref 164) (.ref 165) (.ref 166) 398 82 399),
   (168, fnO (pick 16) "const_key" "clausemill.indexer" 385 167),
   (174, coO "struct_key" 401 "struct_key" 402 403 84 1 0 0 3 (.ref 169) 181 (.ref 170) .none (.ref 171) (.ref 172) (.ref 173) 405 84 406),
   (175, fnO (pick 17) "struct_key" "clausemill.indexer" 385 174),
   (181, coO "matching" 408 "matching" 409 410 86 2 0 0 3 (.ref 176) 181 (.ref 177) .none (.ref 178) (.ref 179) (.ref 180) 413 86 414),
   (182, fnO (pick 18) "matching" "clausemill.indexer" 385 181),
   (188, coO "candidates" 416 "candidates" 417 418 90 2 0 0 3 (.ref 183) 181 (.ref 184) .none (.ref 185) (.ref 186) (.ref 187) 423 90 424),
   (189, fnO (pick 19) "candidates" "clausemill.indexer" 385 188),
   (195, coO "all_variable" 426 "all_variable" 427 428 96 1 0 0 3 (.ref 190) 181 (.ref 191) .none (.ref 192) (.ref 193) (.ref 194) 431 96 432),
   (196, fnO (pick 20) "all_variable" "clausemill.indexer" 385 195),
   (209, coO "__init__" 446 "BlockBuilder.__init__" 447 448 103 3 0 0 3 (.ref 204) 181 (.ref 205) .none (.ref 206) (.ref 207) (.ref 208) 452 103 453),
   (210, fnO (pickIn 21 0) "BlockBuilder.__init__" "clausemill.indexer" 385 209),
   (216, coO "fresh_label" 455 "BlockBuilder.fresh_label" 456 457 111 1 0 0 3 (.ref 211) 181 (.ref 212) .none (.ref 213) (.ref 214) (.ref 215) 460 111 461),
   (217, fnO (pickIn 21 1) "BlockBuilder.fresh_label" "clausemill.indexer" 385 216),
   (223, coO "chain_rows" 463 "BlockBuilder.chain_rows" 464 465 116 2 0 0 3 (.ref 218) 181 (.ref 219) .none (.ref 220) (.ref 221) (.ref 222) 471 116 472),
   (224, fnO (pickIn 21 2) "BlockBuilder.chain_rows" "clausemill.indexer" 385 223),
   (230, coO "chain" 474 "BlockBuilder.chain" 475 476 124 2 0 0 3 (.ref 225) 181 (.ref 226) .none (.ref 227) (.ref 228) (.ref 229) 481 124 482),
   (231, fnO (pickIn 21 3) "BlockBuilder.chain" "clausemill.indexer" 385 230),
   (237, coO "matching_places" 484 "BlockBuilder.matching_places" 485 486 137 3 0 0 3 (.ref 232) 181 (.ref 233) .none (.ref 234) (.ref 235) (.ref 236) 492 137 493),
   (238, fnO (pickIn 21 4) "BlockBuilder.matching_places" "clausemill.indexer" 385 237),
   (244, coO "variable_places" 495 "BlockBuilder.variable_places" 496 497 144 2 0 0 3 (.ref 239) 181 (.ref 240) .none (.ref 241) (.ref 242) (.ref 243) 502 144 503),
   (245, fnO (pickIn 21 5) "BlockBuilder.variable_places" "clausemill.indexer" 385 244),
   (251, coO "table" 505 "BlockBuilder.table" 506 507 151 3 0 0 3 (.ref 246) 181 (.ref 247) .none (.ref 248) (.ref 249) (.ref 250) 515 151 516),
   (252, fnO (pickIn 21 6) "BlockBuilder.table" "clausemill.indexer" 385 251),
   (258, coO "switch" 518 "BlockBuilder.switch" 519 520 161 2 0 0 3 (.ref 253) 181 (.ref 254) .none (.ref 255) (.ref 256) (.ref 257) 529 161 530),
   (259, fnO (pickIn 21 7) "BlockBuilder.switch" "clausemill.indexer" 385 258),
   (265, coO "finish" 532 "BlockBuilder.finish" 533 534 180 1 0 0 3 (.ref 260) 181 (.ref 261) .none (.ref 262) (.ref 263) (.ref 264) 539 180 540),
   (266, fnO (pickIn 21 8) "BlockBuilder.finish" "clausemill.indexer" 385 265),
   (268, { cls := Value.type "dict", data := Data.dict #[ent P "__module__" 441 (Value.str ("clausemill.indexer") 385), ent P "__firstlineno__" 445 (Value.int 101 444), ent P "__init__" 454 (Value.ref 210), ent P "fresh_label" 462 (Value.ref 217), ent P "chain_rows" 473 (Value.ref 224), ent P "chain" 483 (Value.ref 231), ent P "matching_places" 494 (Value.ref 238), ent P "variable_places" 504 (Value.ref 245), ent P "table" 517 (Value.ref 252), ent P "switch" 531 (Value.ref 259), ent P "finish" 541 (Value.ref 266), ent P "__static_attributes__" 548 (Value.ref 267), ent P "__dict__" 550 (Value.ref 270), ent P "__weakref__" 552 (Value.ref 271), ent P "__doc__" 553 (Value.none)] 4 }),
   (269, { cls := Value.type "type", data := Data.cls { name := "BlockBuilder", bases := [Value.type "object"], mro := [Value.ref 269, Value.type "object"], ns := 268, qualname := "BlockBuilder" }, slots := #[none, none, some (Value.str ("BlockBuilder") 434), some (Value.str ("BlockBuilder") 442), some (Value.builtin "object.__new__"), some (Value.bool true)] }),
   (279, coO "small_block" 556 "small_block" 557 558 190 1 0 0 3 (.ref 274) 181 (.ref 275) .none (.ref 276) (.ref 277) (.ref 278) 560 190 561),
   (280, fnO (pick 22) "small_block" "clausemill.indexer" 385 279),
   (286, coO "chain_block" 563 "chain_block" 564 565 194 3 0 0 3 (.ref 281) 181 (.ref 282) .none (.ref 283) (.ref 284) (.ref 285) 571 194 572),
   (287, fnO (pick 23) "chain_block" "clausemill.indexer" 385 286),
   (293, coO "index_block" 574 "index_block" 575 576 201 3 0 0 3 (.ref 288) 181 (.ref 289) .none (.ref 290) (.ref 291) (.ref 292) 581 201 582),
   (294, fnO (pick 24) "index_block" "clausemill.indexer" 385 293),
   (300, coO "clause_groups" 584 "clause_groups" 585 586 209 1 0 0 3 (.ref 295) 181 (.ref 296) .none (.ref 297) (.ref 298) (.ref 299) 591 209 592),
   (301, fnO (pick 25) "clause_groups" "clausemill.indexer" 385 300),
   (307, coO "group_block" 594 "group_block" 595 596 223 3 0 0 3 (.ref 302) 181 (.ref 303) .none (.ref 304) (.ref 305) (.ref 306) 606 223 607),
   (308, fnO (pick 26) "group_block" "clausemill.indexer" 385 307),
   (314, coO "label_places" 609 "label_places" 610 611 246 1 0 0 3 (.ref 309) 181 (.ref 310) .none (.ref 311) (.ref 312) (.ref 313) 615 246 616),
   (315, fnO (pick 27) "label_places" "clausemill.indexer" 385 314),
   (321, coO "switch_target" 618 "switch_target" 619 620 252 2 0 0 3 (.ref 316) 181 (.ref 317) .none (.ref 318) (.ref 319) (.ref 320) 624 252 625),
   (322, fnO (pick 28) "switch_target" "clausemill.indexer" 385 321),
   (328, coO "table_target" 627 "table_target" 628 629 261 2 0 0 3 (.ref 323) 181 (.ref 324) .none (.ref 325) (.ref 326) (.ref 327) 633 261 634),
   (329, fnO (pick 29) "table_target" "clausemill.indexer" 385 328),
   (335, coO "tried_clauses" 636 "tried_clauses" 637 638 266 3 0 0 3 (.ref 330) 181 (.ref 331) .none (.ref 332) (.ref 333) (.ref 334) 649 266 650),
   (336, fnO (pick 30) "tried_clauses" "clausemill.indexer" 385 335),
   (342, coO "sample_keys" 652 "sample_keys" 653 654 298 1 0 0 3 (.ref 337) 181 (.ref 338) .none (.ref 339) (.ref 340) (.ref 341) 661 298 662),
   (343, fnO (pick 31) "sample_keys" "clausemill.indexer" 385 342),
   (347, coO "check_index" 664 "check_index" 665 666 313 3 0 0 3 (.ref 344) 181 (.ref 345) .none .none .none (.ref 346) 667 313 668),
   (348, fnO (pick 32) "check_index" "clausemill.indexer" 385 347),
   (354, coO "leaves_choice" 670 "leaves_choice" 671 672 321 2 0 0 3 (.ref 349) 181 (.ref 350) .none (.ref 351) (.ref 352) (.ref 353) 675 321 676),
   (355, fnO (pick 33) "leaves_choice" "clausemill.indexer" 385 354),
   (368, coO "__init__" 692 "ClauseCode.__init__" 693 694 326 5 0 0 3 (.ref 363) 181 (.ref 364) .none (.ref 365) (.ref 366) (.ref 367) 700 326 701),
   (369, fnO (pickIn 35 0) "ClauseCode.__init__" "clausemill.compiler" 678 368),
   (371, { cls := Value.type "dict", data := Data.dict #[ent P "__module__" 687 (Value.str ("clausemill.compiler") 678), ent P "__firstlineno__" 691 (Value.int 324 690), ent P "__init__" 702 (Value.ref 369), ent P "__static_attributes__" 707 (Value.ref 370), ent P "__dict__" 709 (Value.ref 373), ent P "__weakref__" 711 (Value.ref 374), ent P "__doc__" 712 (Value.none)] 4 }),
   (372, { cls := Value.type "type", data := Data.cls { name := "ClauseCode", bases := [Value.type "object"], mro := [Value.ref 372, Value.type "object"], ns := 371, qualname := "ClauseCode" }, slots := #[none, none, some (Value.str ("ClauseCode") 680), some (Value.str ("ClauseCode") 688), some (Value.builtin "object.__new__"), some (Value.bool true)] }),
   (382, coO "_law_row" 717 "_law_row" 718 719 332 1 0 0 3 (.ref 377) 181 (.ref 378) .none (.ref 379) (.ref 380) (.ref 381) 725 332 726),
   (383, fnO (pick 37) "_law_row" "law_no0168_01" 715 382),
   (389, coO "_law_next" 728 "_law_next" 729 730 345 1 0 0 3 (.ref 384) 181 (.ref 385) .none (.ref 386) (.ref 387) (.ref 388) 732 345 733),
   (390, fnO (pick 38) "_law_next" "law_no0168_01" 715 389),
   (396, coO "_law_key" 735 "_law_key" 736 737 347 1 0 0 3 (.ref 391) 181 (.ref 392) .none (.ref 393) (.ref 394) (.ref 395) 740 347 741),
   (397, fnO (pick 39) "_law_key" "law_no0168_01" 715 396),
   (403, coO "_law_matches" 743 "_law_matches" 744 745 356 2 0 0 3 (.ref 398) 181 (.ref 399) .none (.ref 400) (.ref 401) (.ref 402) 748 356 749),
   (404, fnO (pick 40) "_law_matches" "law_no0168_01" 715 403),
   (410, coO "_law_target" 751 "_law_target" 752 753 358 2 0 0 3 (.ref 405) 181 (.ref 406) .none (.ref 407) (.ref 408) (.ref 409) 758 358 759),
   (411, fnO (pick 41) "_law_target" "law_no0168_01" 715 410),
   (417, coO "_law_visits" 761 "_law_visits" 762 763 367 4 0 0 3 (.ref 412) 181 (.ref 413) .none (.ref 414) (.ref 415) (.ref 416) 777 367 778),
   (418, fnO (pick 42) "_law_visits" "law_no0168_01" 715 417),
   (422, coO "_law_spoiled" 780 "_law_spoiled" 781 782 409 3 0 0 3 (.ref 419) 181 (.ref 420) .none .none .none (.ref 421) 783 409 784),
   (423, fnO (pick 43) "_law_spoiled" "law_no0168_01" 715 422),
   (427, coO "_law_checked" 786 "_law_checked" 787 788 432 5 0 0 3 (.ref 424) 181 (.ref 425) .none .none .none (.ref 426) 789 432 790),
   (428, fnO (pick 44) "_law_checked" "law_no0168_01" 715 427),
   (432, coO "law" 792 "law" 793 794 441 1 0 0 3 (.ref 429) 181 (.ref 430) .none .none .none (.ref 431) 795 441 796),
   (433, fnO (pick 45) "law" "law_no0168_01" 715 432)]
noncomputable def Kas : List Addr := [3, 60, 61, 67, 68, 81, 82, 88, 89, 102, 103, 109, 110, 123, 124, 154, 155, 160, 161, 167, 168, 174, 175, 181, 182, 188, 189, 195, 196, 209, 210, 216, 217, 223, 224, 230, 231, 237, 238, 244, 245, 251, 252, 258, 259, 265, 266, 268, 269, 279, 280, 286, 287, 293, 294, 300, 301, 307, 308, 314, 315, 321, 322, 328, 329, 335, 336, 342, 343, 347, 348, 354, 355, 368, 369, 371, 372, 382, 383, 389, 390, 396, 397, 403, 404, 410, 411, 417, 418, 422, 423, 427, 428, 432, 433]
/-! the head, in two looks at the run of the top: the library's one look over all defs takes too much memory -/
/-- the program with no def but the law -/
noncomputable def qv : Program := { Challenge.pw_no0168_01 with main := { Challenge.pw_no0168_01.main with body := [pick 45] } }
noncomputable def lv : List Str := ["_wall", "ClausemillError", "LinkFault", "F_MINUS1", "F_MINUS", "F_PLUS", "fixed_atoms", "fixed_functors", "Symbols", "CON", "INT", "VAR_KEY", "LIST_KEY", "FAIL_LABEL", "const_key", "struct_key", "matching", "candidates", "all_variable", "BlockBuilder", "small_block", "chain_block", "index_block", "clause_groups", "group_block", "label_places", "switch_target", "table_target", "tried_clauses", "sample_keys", "check_index", "leaves_choice", "ClauseCode", "_law_row", "_law_next", "_law_key", "_law_matches", "_law_target", "_law_visits", "_law_spoiled", "_law_checked"].map Str.ofString
theorem hl1 : LeftO Challenge.pw_no0168_01 qv lv (fun s => xlAt qv [] s && recOk [] s) (fun _ => ()) (fun _ => ()) 5608 := fun w => by kernel_rfl
theorem hl2 (w : World) : (openEnds treeTable Challenge.pw_no0168_01 w 5608).map (fun s => Kas.map s.heap.get?) = some ((K w.params).map fun p => some p.2) := by kernel_rfl
theorem two_obs {α β γ δ : Type} {t : Option α} {A : α → β} {U : α → γ} {Y : α → δ} {a : β} {u : γ} {y : δ} (h1 : t.map (fun s => (A s, U s)) = some (a, u)) (h2 : t.map Y = some y) : t.map (fun s => (A s, Y s)) = some (a, y) := by
  cases t with
  | none => cases h1
  | some s => exact congrArg some (Prod.ext (Prod.mk.inj (Option.some.inj h1)).1 (Option.some.inj h2))
theorem hl : LeftO Challenge.pw_no0168_01 qv lv (fun s => xlAt qv [] s && recOk [] s) (kHook K Kas (fun _ => by kernel_rfl)).obs (kHook K Kas (fun _ => by kernel_rfl)).val 5608 := fun w => two_obs (hl1 w) (hl2 w)
/-! else the library would lay a decoded copy of the program, with a proof of 4 MB -/
noncomputable def head.tw16614476760852798569 : Program := Challenge.pw_no0168_01
theorem head.te16614476760852798569 : Challenge.pw_no0168_01 = head.tw16614476760852798569 := rfl
/-- what is left: a call of the law -/
noncomputable def LawRuns : Prop := ∀ {w : World} {s : Shared} {mg mb : Str → Option Value} {fa la : Addr} {ls : List Value} {xs : List Int}, (K w.params).In s.heap → s.heap.Ns mainGlobals mg → s.heap.Ns builtinsNs mb → s.heap.NoLimit → (∀ x : Str, x ≠ "__name__" → mb x = bootBuiltins x) →
  mg (Str.ofString "law") = some (.ref fa) → s.heap.IsList la ls.toArray → IntsAre ls xs → xs.length ≤ 63 →
  codeAny (model Challenge.rw_no0168_01.row.prog w) callerA (.call (.ref fa) ⟨[.ref la], []⟩) (fun r s' => r = .ok (.ret (.bool true)) ∧ (∀ a o, s.heap.get? a = some o → s'.heap.get? a = some o) ∧ s' = { s with heap := s'.heap, toks := s'.toks }) s
set_option Elab.async true in
theorem head (law_run : LawRuns) : Challenge.rw_no0168_01.Holds := by
  w_on; o_law
  refine PySem.W.holds_open (q := qv) (loose := lv) (Xt := fun s => xlAt qv [] s && recOk [] s) (XP := XL qv []) (Yf := (kHook K Kas (fun _ => by kernel_rfl)).obs) (Ya := (kHook K Kas (fun _ => by kernel_rfl)).val) (YP := (kHook K Kas (fun _ => by kernel_rfl)).says) (N := 5608) hl (Hook.of _) (Hook.keeps _) (fun s e => xl_of s (Bool.and_eq_true_iff.mp e).1) XL.keeps (by rfl) (by rfl) (by rfl) (fun s e => recFacts_of (Bool.and_eq_true_iff.mp e).2) (by rfl) (by first | assumption | decide +kernel) (by decide +kernel) ⟨rfl, rfl, rfl, rfl, rfl, by decide +kernel⟩ ?hw ?hc
  case hw => w_witness2
  intro w s₀ s₁ mg mb G Y fa o pm cd doc dV kV ho hd' hcd hD hmg hg args vals as hpre hlay hrd hwl hlo
  have KX := kIn_of Y
  refine Ground.open G ?_
  intro T B D TE TW
  wrow_args hpre hlay hrd hwl hlo
  all_goals rename_i xs _ _ _ _ _ _ _ la ls _ hL _ _ _ hI _ hcond _
  all_goals refine enter_call ?_
  all_goals refine codeAny_mono (law_run KX T.g T.b T.nolimit T.builtins hmg hL hI (by omega)) ?_
  rintro r s' ⟨rfl, k, hs⟩
  refine GoodW.toG ⟨.inl ⟨_, .bool true, [], rfl, raisesW_false ?_, .bool true, ?_, fun _ => ⟨List.nodup_nil, fun _ h => by cases h⟩⟩, k, ?_, ?_⟩
  · wrow_none_raised
  · exact postW_of (by wrow_shape) (by wtm_val) (by w_fin)
  · rw [hs]
  · rw [hs]; exact hg
inductive V where
  | none
  | bool (b : Bool)
  | int (i : Int)
  | str (s : String)
  | tup (vs : List V)
  | ref (i : Nat)
  | frz (vs : List V)
inductive Dct where
  | emp
  | I (f : Int → Option V) (n : Nat)
  | S (f : String → Option V) (n : Nat)
  | T (f : List Int → Option V) (n : Nat)
inductive O where
  | list (vs : List V)
  | dict (D : Dct)
  | inst (c : Addr) (fs : List (String × V))
structure Sl where
  a : Addr
  d : Addr
noncomputable abbrev Hp := List O
noncomputable abbrev Loc := String → Option V
@[simp] noncomputable def upd (m : Loc) (x : String) (v : V) : Loc := fun y => if y = x then some v else m y
inductive Fl where
  | next
  | cont
  | ret (v : V)
noncomputable abbrev Ex := Loc → Hp → Option (V × Hp)
noncomputable abbrev Tx := Loc → Hp → Option (Bool × Hp)
noncomputable abbrev Sx := Loc → Hp → Option (Fl × Loc × Hp)
noncomputable abbrev Fn := List V → Hp → Option (V × Hp)
noncomputable abbrev tupObj (vs : List Value) : Obj := { cls := .type "tuple", data := .seq vs.toArray }
mutual
inductive VR (h0 : Heap) (μ : List Sl) (h : Heap) : V → Value → Prop
  | none : VR h0 μ h .none .none
  | bool (b : Bool) : VR h0 μ h (.bool b) (.bool b)
  | int (i : Int) (t : Tok) : VR h0 μ h (.int i) (.int i t)
  | str (s : String) (t : Tok) : VR h0 μ h (.str s) (.str (Str.ofString s) t)
  | tup {a : Addr} {vs : List Value} {Vs : List V} : h.get? a = some (tupObj vs) → VRs h0 μ h Vs vs → VR h0 μ h (.tup Vs) (.ref a)
  | ref {i : Nat} {sl : Sl} : μ[i]? = some sl → VR h0 μ h (.ref i) (.ref sl.a)
  | frz {a : Addr} {vs : List Value} {Vs : List V} : h0.IsList a vs.toArray → VRs h0 μ h Vs vs → VR h0 μ h (.frz Vs) (.ref a)
inductive VRs (h0 : Heap) (μ : List Sl) (h : Heap) : List V → List Value → Prop
  | nil : VRs h0 μ h [] []
  | cons {X : V} {v : Value} {Vs : List V} {vs : List Value} : VR h0 μ h X v → VRs h0 μ h Vs vs → VRs h0 μ h (X :: Vs) (v :: vs)
end
noncomputable def Pre (μ μ' : List Sl) : Prop := ∀ (i : Nat) (sl : Sl), μ[i]? = some sl → μ'[i]? = some sl
theorem Pre.refl (μ : List Sl) : Pre μ μ := fun _ _ e => e
theorem Pre.trans {μ μ' μ'' : List Sl} (x : Pre μ μ') (y : Pre μ' μ'') : Pre μ μ'' := fun i sl e => y i sl (x i sl e)
theorem Pre.snoc (μ : List Sl) (sl : Sl) : Pre μ (μ ++ [sl]) := fun i s e => by
  have := (List.getElem?_eq_some_iff.mp e).1
  rw [List.getElem?_append_left this, e]
noncomputable def TupKeep (h h' : Heap) : Prop := ∀ a vs, h.get? a = some (tupObj vs) → h'.get? a = some (tupObj vs)
theorem TupKeep.refl (h : Heap) : TupKeep h h := fun _ _ e => e
theorem TupKeep.trans {h h' h'' : Heap} (x : TupKeep h h') (y : TupKeep h' h'') : TupKeep h h'' := fun a o e => y a o (x a o e)
section
variable {h0 h h' : Heap} {μ μ' : List Sl}
mutual
theorem VR.mono (k : TupKeep h h') (p : Pre μ μ') : ∀ {X : V} {v : Value}, VR h0 μ h X v → VR h0 μ' h' X v
  | _, _, .none => .none
  | _, _, .bool b => .bool b
  | _, _, .int i t => .int i t
  | _, _, .str s t => .str s t
  | _, _, .tup e r => .tup (k _ _ e) (VRs.mono k p r)
  | _, _, .ref e => .ref (p _ _ e)
  | _, _, .frz e r => .frz e (VRs.mono k p r)
theorem VRs.mono (k : TupKeep h h') (p : Pre μ μ') : ∀ {Vs : List V} {vs : List Value}, VRs h0 μ h Vs vs → VRs h0 μ' h' Vs vs
  | _, _, .nil => .nil
  | _, _, .cons x r => .cons (VR.mono k p x) (VRs.mono k p r)
end
theorem VRs.length {Vs : List V} {vs : List Value} (x : VRs h0 μ h Vs vs) : vs.length = Vs.length := by
  induction Vs generalizing vs with
  | nil => cases x; rfl
  | cons V Vs ih => cases x with | cons _ r => simp [ih r]
theorem VRs.append {Vs Ws : List V} {vs ws : List Value} (x : VRs h0 μ h Vs vs) (y : VRs h0 μ h Ws ws) : VRs h0 μ h (Vs ++ Ws) (vs ++ ws) := by
  induction Vs generalizing vs with
  | nil => cases x; exact y
  | cons V Vs ih => cases x with | cons a r => exact .cons a (ih r)
theorem VRs.get {Vs : List V} {vs : List Value} (x : VRs h0 μ h Vs vs) {i : Nat} {X : V} (e : Vs[i]? = some X) : ∃ v, vs[i]? = some v ∧ VR h0 μ h X v := by
  induction Vs generalizing vs i with
  | nil => cases e
  | cons W Vs ih =>
    cases x with
    | cons a r =>
      cases i with
      | zero => cases e; exact ⟨_, rfl, a⟩
      | succ i => exact ih r e
theorem VRs.take {Vs : List V} {vs : List Value} (x : VRs h0 μ h Vs vs) (n : Nat) : VRs h0 μ h (Vs.take n) (vs.take n) := by
  induction Vs generalizing vs n with
  | nil => cases x; simp; exact .nil
  | cons W Vs ih =>
    cases x with
    | cons a r =>
      cases n with
      | zero => exact .nil
      | succ n => exact .cons a (ih r n)
theorem VRs.drop {Vs : List V} {vs : List Value} (x : VRs h0 μ h Vs vs) (n : Nat) : VRs h0 μ h (Vs.drop n) (vs.drop n) := by
  induction Vs generalizing vs n with
  | nil => cases x; simp; exact .nil
  | cons W Vs ih =>
    cases x with
    | cons a r =>
      cases n with
      | zero => exact .cons a r
      | succ n => exact ih r n
theorem VRs.reverse {Vs : List V} {vs : List Value} (x : VRs h0 μ h Vs vs) : VRs h0 μ h Vs.reverse vs.reverse := by
  induction Vs generalizing vs with
  | nil => cases x; exact .nil
  | cons W Vs ih =>
    cases x with
    | cons a r => rw [List.reverse_cons, List.reverse_cons]; exact (ih r).append (.cons a .nil)
theorem VRs.set {Vs : List V} {vs : List Value} (x : VRs h0 μ h Vs vs) (i : Nat) {X : V} {v : Value} (y : VR h0 μ h X v) : VRs h0 μ h (Vs.set i X) (vs.set i v) := by
  induction Vs generalizing vs i with
  | nil => cases x; exact .nil
  | cons W Vs ih =>
    cases x with
    | cons a r =>
      cases i with
      | zero => exact .cons y r
      | succ n => exact .cons a (ih r n)
theorem VRs.eraseIdx {Vs : List V} {vs : List Value} (x : VRs h0 μ h Vs vs) (i : Nat) : VRs h0 μ h (Vs.eraseIdx i) (vs.eraseIdx i) := by
  induction Vs generalizing vs i with
  | nil => cases x; exact .nil
  | cons W Vs ih =>
    cases x with
    | cons a r =>
      cases i with
      | zero => exact r
      | succ n => exact .cons a (ih r n)
theorem VRs.dropLast {Vs : List V} {vs : List Value} (x : VRs h0 μ h Vs vs) : VRs h0 μ h Vs.dropLast vs.dropLast := by
  rw [List.dropLast_eq_take, List.dropLast_eq_take, x.length]; exact x.take _
end
noncomputable abbrev dictObj (ds : List DictEntry) (n : Nat) : Obj := { cls := .type "dict", data := .dict ds.toArray n }
noncomputable def big : Nat := 1000000
noncomputable def intsOf : List V → List Int
  | .int i :: r => i :: intsOf r
  | _ => []
noncomputable def allInts : List V → Bool
  | [] => true
  | .int _ :: r => allInts r
  | _ => false
noncomputable def OptR (h0 : Heap) (μ : List Sl) (h : Heap) : Option V → Option Value → Prop
  | some X, some v => VR h0 μ h X v
  | none, none => True
  | _, _ => False
theorem OptR.mono {h0 h h' : Heap} {μ μ' : List Sl} (k : TupKeep h h') (p : Pre μ μ') {X : Option V} {v : Option Value} (x : OptR h0 μ h X v) : OptR h0 μ' h' X v := by
  cases X <;> cases v <;> first | exact x.elim | exact trivial | exact VR.mono k p x
inductive DR (prog : Program) (w : World) (h0 : Heap) (μ : List Sl) (h : Heap) (a : Addr) : Dct → Prop
  | emp {n : Nat} : h.get? a = some (dictObj [] n) → DR prog w h0 μ h a .emp
  | I {f : Int → Option V} {n : Nat} {kvs : List (Int × Value)} : h.DictOf (intKind prog w) a kvs → kvs.length ≤ n → (∀ i, OptR h0 μ h (f i) (valueAt kvs i)) → n ≤ big → DR prog w h0 μ h a (.I f n)
  | S {f : String → Option V} {n : Nat} {kvs : List (Str × Value)} : h.DictOf (strKind prog w) a kvs → kvs.length ≤ n → (∀ i, OptR h0 μ h (f i) (valueAt kvs (Str.ofString i))) → n ≤ big → DR prog w h0 μ h a (.S f n)
  | T {f : List Int → Option V} {n : Nat} {xs : List (List Int × Addr × Value)} : h.DictOfH (tupleKind (intKind prog w)) a xs → xs.length ≤ n → (∀ x ∈ xs, ∃ vs, h.get? x.2.1 = some (tupObj vs)) → (∀ i, OptR h0 μ h (f i) ((atKey xs i).map (·.2))) → n ≤ big → DR prog w h0 μ h a (.T f n)
inductive FEs (h0 : Heap) (μ : List Sl) (h : Heap) : List (String × V) → List DictEntry → Prop
  | nil : FEs h0 μ h [] []
  | cons {f : String} {X : V} {e : DictEntry} {fs : List (String × V)} {ds : List DictEntry} : (∃ t, e.key = .str (Str.ofString f) t) → VR h0 μ h X e.val → FEs h0 μ h fs ds → FEs h0 μ h ((f, X) :: fs) (e :: ds)
inductive OR (prog : Program) (w : World) (h0 : Heap) (μ : List Sl) (h : Heap) : O → Sl → Prop
  | list {vs : List Value} {Vs : List V} {n : Nat} {sl : Sl} : h.get? sl.a = some (listOf vs.toArray n) → sl.d = sl.a → VRs h0 μ h Vs vs → Vs.length ≤ big → OR prog w h0 μ h (.list Vs) sl
  | dict {D : Dct} {sl : Sl} : DR prog w h0 μ h sl.a D → sl.d = sl.a → OR prog w h0 μ h (.dict D) sl
  | inst {C : Addr} {fs : List (String × V)} {ds : List DictEntry} {n : Nat} {sl : Sl} : h.get? sl.a = some (instObj C sl.d) → h.get? sl.d = some (dictObj ds n) → FEs h0 μ h fs ds → (fs.map (·.1)).Nodup → fs.length ≤ 50 → OR prog w h0 μ h (.inst C fs) sl
section
variable {prog : Program} {w : World} {h0 h h' : Heap} {μ μ' : List Sl}
theorem DR.mono (k : TupKeep h h') (p : Pre μ μ') {a : Addr} {D : Dct} (ea : ∀ o, h.get? a = some o → h'.get? a = some o) (x : DR prog w h0 μ h a D) : DR prog w h0 μ' h' a D := by
  have le : ∀ {n : Nat} {o : Obj}, h.get? a = some o → h.DictLe a n → h'.DictLe a n := fun e x => x.of_same e (ea _ e)
  cases x with
  | emp e => exact .emp (ea _ e)
  | I m l r z =>
    obtain ⟨o, es, ep, e, q⟩ := m
    exact .I ⟨o, es, ep, ea _ e, q⟩ l (fun i => (r i).mono k p) z
  | S m l r z =>
    obtain ⟨o, es, ep, e, q⟩ := m
    exact .S ⟨o, es, ep, ea _ e, q⟩ l (fun i => (r i).mono k p) z
  | @T f n xs m l t r z =>
    obtain ⟨o, es, ep, e, q1, q2, q3, q4, q5⟩ := m
    have ht : ∀ x ∈ xs, ∃ vs, h'.get? x.2.1 = some (tupObj vs) := fun x hx => by
      obtain ⟨vs, e⟩ := t x hx
      exact ⟨vs, k _ _ e⟩
    refine .T ⟨o, es, ep, ea _ e, q1, q2, q3, fun x hx => ?_, q5⟩ l ht (fun i => (r i).mono k p) z
    obtain ⟨o', items, n', e1, e2, e3, e4⟩ := q4 x hx
    obtain ⟨vs, e5⟩ := t x hx
    rw [e5] at e1; cases e1
    exact ⟨_, _, _, k _ _ e5, e2, e3, e4⟩
theorem ne_dict : (Value.type "dict") ≠ .type "tuple" := by decide
theorem DR.obj {a : Addr} {D : Dct} (x : DR prog w h0 μ h a D) : ∃ o, h.get? a = some o ∧ o.cls = .type "dict" := by
  cases x with
  | emp e => exact ⟨_, e, rfl⟩
  | I m l r z => obtain ⟨o, es, ep, e, q, _⟩ := m; exact ⟨o, e, q.1⟩
  | S m l r z => obtain ⟨o, es, ep, e, q, _⟩ := m; exact ⟨o, e, q.1⟩
  | T m l t r z => obtain ⟨o, es, ep, e, q, _⟩ := m; exact ⟨o, e, q.1⟩
theorem FEs.mono (k : TupKeep h h') (p : Pre μ μ') {es : List (String × V)} {ds : List DictEntry} (x : FEs h0 μ h es ds) : FEs h0 μ' h' es ds := by
  induction x with
  | nil => exact .nil
  | cons a c _ ih => exact .cons a (c.mono k p) ih
theorem OR.mono (k : TupKeep h h') (p : Pre μ μ') {o : O} {sl : Sl} (ea : ∀ o, h.get? sl.a = some o → h'.get? sl.a = some o) (ed : ∀ o, h.get? sl.d = some o → h'.get? sl.d = some o) (x : OR prog w h0 μ h o sl) : OR prog w h0 μ' h' o sl := by
  cases x with
  | list e d r z => exact .list (ea _ e) d (r.mono k p) z
  | dict x d => exact .dict (x.mono k p ea) d
  | inst e d r n z => exact .inst (ea _ e) (ed _ d) (r.mono k p) n z
theorem ne_list : (Value.type "list") ≠ .type "tuple" := by decide
theorem lt_no {a b : Nat} (h : a < b) (k : b ≤ a) : False := Nat.lt_irrefl _ (Nat.lt_of_lt_of_le h k)
theorem ne_of_lt_le {a b c : Nat} (h : a < b) (k : b ≤ c) : a ≠ c := fun e => lt_no h (e ▸ k)
theorem ne_of_lt_le' {a b c : Nat} (h : a < b) (k : b ≤ c) : c ≠ a := fun e => lt_no h (e ▸ k)
theorem OR.obj {o : O} {sl : Sl} (x : OR prog w h0 μ h o sl) : (∃ oa, h.get? sl.a = some oa ∧ oa.cls ≠ .type "tuple") ∧ (∃ od, h.get? sl.d = some od ∧ od.cls ≠ .type "tuple") := by
  cases x with
  | list e d r z => rw [d]; exact ⟨⟨_, e, ne_list⟩, ⟨_, e, ne_list⟩⟩
  | dict x d =>
    obtain ⟨o, e, c⟩ := x.obj
    rw [d]; exact ⟨⟨o, e, by rw [c]; exact ne_dict⟩, ⟨o, e, by rw [c]; exact ne_dict⟩⟩
  | inst e d r n z => exact ⟨⟨_, e, by intro q; cases q⟩, ⟨_, d, ne_dict⟩⟩
end
noncomputable def madr (μ : List Sl) (a : Addr) : Prop := ∃ sl ∈ μ, a = sl.a ∨ a = sl.d
structure HR (prog : Program) (w : World) (h0 : Heap) (μ : List Sl) (h : Heap) (H : Hp) : Prop where
  base : ∀ b o, h0.get? b = some o → h.get? b = some o
  bsz : h0.objs.size ≤ h.objs.size
  len : μ.length = H.length
  low : ∀ a, madr μ a → h0.objs.size ≤ a
  apart : ∀ (i j : Nat) (si sj : Sl), μ[i]? = some si → μ[j]? = some sj → i ≠ j → si.a ≠ sj.a ∧ si.a ≠ sj.d ∧ si.d ≠ sj.a ∧ si.d ≠ sj.d
  objs : ∀ (i : Nat) (sl : Sl) (o : O), μ[i]? = some sl → H[i]? = some o → OR prog w h0 μ h o sl
section
variable {prog : Program} {w : World} {h0 h h' : Heap} {μ μ' : List Sl} {H : Hp}
theorem HR.at (R : HR prog w h0 μ h H) {i : Nat} {o : O} (e : H[i]? = some o) : ∃ sl, μ[i]? = some sl ∧ OR prog w h0 μ h o sl := by
  have hi := (List.getElem?_eq_some_iff.mp e).1
  have hi' : i < μ.length := by rw [R.len]; exact hi
  exact ⟨μ[i], List.getElem?_eq_getElem hi', R.objs i _ o (List.getElem?_eq_getElem hi') e⟩
theorem HR.there (R : HR prog w h0 μ h H) {a : Addr} (m : madr μ a) : ∃ o, h.get? a = some o ∧ o.cls ≠ .type "tuple" := by
  obtain ⟨sl, hm, e⟩ := m
  obtain ⟨i, hi⟩ := List.mem_iff_getElem?.mp hm
  have hl : i < H.length := by rw [← R.len]; exact (List.getElem?_eq_some_iff.mp hi).1
  have x := R.objs i sl _ hi (List.getElem?_eq_getElem hl)
  rcases e with rfl | rfl
  · exact x.obj.1
  · exact x.obj.2
theorem HR.lt (R : HR prog w h0 μ h H) {a : Addr} (m : madr μ a) : a < h.objs.size := by
  obtain ⟨o, e, _⟩ := R.there m
  exact Heap.lt_size e
/-- a step that changes nothing of what stood but the tracked objects -/
structure Stp (prog : Program) (w : World) (h0 : Heap) (μ : List Sl) (W : Addr → Prop) (s : Shared) (μ' : List Sl) (s' : Shared) (H' : Hp) : Prop where
  shape : s' = { s with heap := s'.heap, toks := s'.toks }
  pre : Pre μ μ'
  hr : HR prog w h0 μ' s'.heap H'
  keep : ∀ a o, s.heap.get? a = some o → ¬ madr μ a → ¬ W a → s'.heap.get? a = some o
  fresh : ∀ a, madr μ' a → madr μ a ∨ s.heap.objs.size ≤ a
  size : s.heap.objs.size ≤ s'.heap.objs.size
noncomputable def noW : Addr → Prop := fun _ => False
theorem Stp.refl {s : Shared} {W : Addr → Prop} (R : HR prog w h0 μ s.heap H) : Stp prog w h0 μ W s μ s H := ⟨rfl, .refl _, R, fun _ _ e _ _ => e, fun _ m => .inl m, Nat.le_refl _⟩
theorem Stp.trans {W : Addr → Prop} {s s' s'' : Shared} {μ'' : List Sl} {H' H'' : Hp} (x : Stp prog w h0 μ W s μ' s' H') (y : Stp prog w h0 μ' W s' μ'' s'' H'') : Stp prog w h0 μ W s μ'' s'' H'' := by
  refine ⟨?_, x.pre.trans y.pre, y.hr, fun a o e n m => ?_, fun a m => ?_, Nat.le_trans x.size y.size⟩
  · rw [y.shape, x.shape]
  · have e' := x.keep a o e n m
    refine y.keep a o e' (fun q => ?_) m
    rcases x.fresh a q with q | q
    · exact n q
    · exact (lt_no (Heap.lt_size e) q).elim
  · rcases y.fresh a m with m | m
    · exact x.fresh a m
    · exact .inr (Nat.le_trans x.size m)
theorem Stp.weak {W W' : Addr → Prop} {s s' : Shared} {H' : Hp} (x : Stp prog w h0 μ W s μ' s' H') (h : ∀ a, W a → W' a ∨ s.heap.objs.size ≤ a) : Stp prog w h0 μ W' s μ' s' H' :=
  ⟨x.shape, x.pre, x.hr, fun a o e n m => x.keep a o e n fun q => (h a q).elim m fun z => (lt_no (Heap.lt_size e) z).elim, x.fresh, x.size⟩
theorem Stp.weak0 {W : Addr → Prop} {s s' : Shared} {H' : Hp} (x : Stp prog w h0 μ noW s μ' s' H') : Stp prog w h0 μ W s μ' s' H' := x.weak fun _ q => q.elim
theorem Stp.tup {W : Addr → Prop} {s s' : Shared} {H' : Hp} (R : HR prog w h0 μ s.heap H) (hW : ∀ a vs, W a → s.heap.get? a = some (tupObj vs) → False) (x : Stp prog w h0 μ W s μ' s' H') : TupKeep s.heap s'.heap := fun a vs e =>
  x.keep a _ e (fun m => by obtain ⟨o', e', n⟩ := R.there m; rw [e] at e'; cases e'; exact n rfl) fun q => hW a vs q e
theorem Stp.toks {W : Addr → Prop} {s : Shared} (R : HR prog w h0 μ s.heap H) (t : Nat) : Stp prog w h0 μ W s μ { s with toks := t } H := ⟨rfl, .refl _, R, fun _ _ e _ _ => e, fun _ m => .inl m, Nat.le_refl _⟩
/-- the heap grows by objects that are not tracked -/
theorem HR.grow (R : HR prog w h0 μ h H) (k : ∀ b o, h.get? b = some o → h'.get? b = some o) (z : h.objs.size ≤ h'.objs.size) : HR prog w h0 μ h' H :=
  ⟨fun b o e => k b o (R.base b o e), Nat.le_trans R.bsz z, R.len, R.low, R.apart, fun i sl o e e' => (R.objs i sl o e e').mono (fun a o e => k a _ e) (.refl _) (fun o e => k _ o e) fun o e => k _ o e⟩
theorem Stp.grow {W : Addr → Prop} {s : Shared} (R : HR prog w h0 μ s.heap H) (k : ∀ b o, s.heap.get? b = some o → h'.get? b = some o) (z : s.heap.objs.size ≤ h'.objs.size) (t : Nat) : Stp prog w h0 μ W s μ { s with heap := h', toks := t } H :=
  ⟨rfl, .refl _, R.grow k z, fun a o e _ _ => k a o e, fun _ m => .inl m, z⟩
theorem madr_snoc {sl : Sl} {a : Addr} : madr (μ ++ [sl]) a ↔ madr μ a ∨ a = sl.a ∨ a = sl.d := by
  unfold madr
  constructor
  · rintro ⟨s, hm, e⟩
    rcases List.mem_append.mp hm with hm | hm
    · exact .inl ⟨s, hm, e⟩
    · rw [List.mem_singleton] at hm; subst hm; exact .inr e
  · rintro (⟨s, hm, e⟩ | e)
    · exact ⟨s, List.mem_append_left _ hm, e⟩
    · exact ⟨sl, List.mem_append_right _ (List.mem_singleton.mpr rfl), e⟩
/-- a new tracked object -/
theorem HR.push (R : HR prog w h0 μ h H) {sl : Sl} {o : O} (k : ∀ b o, h.get? b = some o → h'.get? b = some o) (z : h.objs.size ≤ h'.objs.size) (na : h.objs.size ≤ sl.a) (nd : h.objs.size ≤ sl.d)
    (x : OR prog w h0 (μ ++ [sl]) h' o sl) : HR prog w h0 (μ ++ [sl]) h' (H ++ [o]) := by
  have G := R.grow k z
  have old : ∀ (i : Nat) (si : Sl), (μ ++ [sl])[i]? = some si → i < μ.length ∧ μ[i]? = some si ∨ i = μ.length ∧ si = sl := fun i si e => by
    by_cases hi : i < μ.length
    · rw [List.getElem?_append_left hi] at e; exact .inl ⟨hi, e⟩
    · rw [List.getElem?_append_right (by omega)] at e
      have : i - μ.length = 0 := by
        rcases Nat.eq_zero_or_pos (i - μ.length) with q | q
        · exact q
        · rw [List.getElem?_eq_none (by simp; omega)] at e; cases e
      rw [this] at e
      refine .inr ⟨by omega, ?_⟩
      cases e; rfl
  have lt : ∀ (i : Nat) (si : Sl), μ[i]? = some si → si.a < h.objs.size ∧ si.d < h.objs.size := fun i si e =>
    ⟨R.lt ⟨si, List.mem_of_getElem? e, .inl rfl⟩, R.lt ⟨si, List.mem_of_getElem? e, .inr rfl⟩⟩
  refine ⟨G.base, G.bsz, by simp [R.len], fun a m => ?_, fun i j si sj ei ej ne => ?_, fun i si o' ei eo => ?_⟩
  · rcases madr_snoc.mp m with m | rfl | rfl
    · exact R.low a m
    · exact Nat.le_trans R.bsz na
    · exact Nat.le_trans R.bsz nd
  · rcases old i si ei with ⟨hi, fi⟩ | ⟨hi, fi⟩ <;> rcases old j sj ej with ⟨hj, fj⟩ | ⟨hj, fj⟩
    · exact R.apart i j si sj fi fj ne
    · subst fj; have z := lt i si fi; exact ⟨ne_of_lt_le z.1 na, ne_of_lt_le z.1 nd, ne_of_lt_le z.2 na, ne_of_lt_le z.2 nd⟩
    · subst fi; have z := lt j sj fj; exact ⟨ne_of_lt_le' z.1 na, ne_of_lt_le' z.2 na, ne_of_lt_le' z.1 nd, ne_of_lt_le' z.2 nd⟩
    · omega
  · rcases old i si ei with ⟨hi, ei⟩ | ⟨hi, rfl⟩
    · rw [List.getElem?_append_left (by rw [← R.len]; exact hi)] at eo
      exact (G.objs i si o' ei eo).mono (TupKeep.refl _) (Pre.snoc _ _) (fun _ e => e) fun _ e => e
    · rw [List.getElem?_append_right (by rw [← R.len]; omega)] at eo
      have : i - H.length = 0 := by rw [← R.len]; omega
      rw [this] at eo
      cases eo
      exact x
theorem Stp.push {W : Addr → Prop} {s : Shared} {sl : Sl} {o : O} (R : HR prog w h0 μ s.heap H) (k : ∀ b o, s.heap.get? b = some o → h'.get? b = some o) (z : s.heap.objs.size ≤ h'.objs.size) (na : s.heap.objs.size ≤ sl.a) (nd : s.heap.objs.size ≤ sl.d)
    (x : OR prog w h0 (μ ++ [sl]) h' o sl) (t : Nat) : Stp prog w h0 μ W s (μ ++ [sl]) { s with heap := h', toks := t } (H ++ [o]) :=
  ⟨rfl, Pre.snoc _ _, R.push k z na nd x, fun a o e _ _ => k a o e, fun a m => by rcases madr_snoc.mp m with m | rfl | rfl; exact .inl m; exact .inr na; exact .inr nd, z⟩
/-- a tracked object changes -/
theorem HR.set (R : HR prog w h0 μ h H) {i : Nat} {sl : Sl} {o : O} {b : Addr} (e : μ[i]? = some sl) (hb : b = sl.a ∨ b = sl.d) (hs : Heap.SameBut b h h') (x : OR prog w h0 μ h' o sl) : HR prog w h0 μ h' (H.set i o) := by
  have mb : madr μ b := ⟨sl, List.mem_of_getElem? e, hb⟩
  obtain ⟨ob, eb, nb⟩ := R.there mb
  have k : TupKeep h h' := fun a o ea => (hs.2 a fun q => by rw [q, eb] at ea; cases ea; exact nb rfl).trans ea
  refine ⟨fun a o ea => (hs.2 a fun q => ?_).trans (R.base a o ea), by rw [hs.1]; exact R.bsz, by rw [R.len, List.length_set], R.low, R.apart, fun j sj oj ej eo => ?_⟩
  · exact lt_no (Heap.lt_size ea) (q ▸ R.low b mb)
  · by_cases hij : i = j
    · subst hij
      rw [e] at ej; cases ej
      have hl : i < H.length := by rw [← R.len]; exact (List.getElem?_eq_some_iff.mp e).1
      rw [List.getElem?_set_self hl] at eo
      cases eo; exact x
    · rw [List.getElem?_set_ne hij] at eo
      have ap := R.apart i j sl sj e ej hij
      refine (R.objs j sj oj ej eo).mono k (.refl _) (fun o q => (hs.2 _ ?_).trans q) fun o q => (hs.2 _ ?_).trans q
      · rcases hb with rfl | rfl
        · exact Ne.symm ap.1
        · exact Ne.symm ap.2.2.1
      · rcases hb with rfl | rfl
        · exact Ne.symm ap.2.1
        · exact Ne.symm ap.2.2.2
theorem Stp.set {W : Addr → Prop} {s : Shared} {i : Nat} {sl : Sl} {o : O} {b : Addr} (R : HR prog w h0 μ s.heap H) (e : μ[i]? = some sl) (hb : b = sl.a ∨ b = sl.d) (hs : Heap.SameBut b s.heap h') (x : OR prog w h0 μ h' o sl) (t : Nat) :
    Stp prog w h0 μ W s μ { s with heap := h', toks := t } (H.set i o) :=
  ⟨rfl, .refl _, R.set e hb hs x, fun a o ea n _ => (hs.2 a fun q => n ⟨sl, List.mem_of_getElem? e, q ▸ hb⟩).trans ea, fun _ m => .inl m, by rw [hs.1]; exact Nat.le_refl _⟩
end
theorem ofString_inj {a b : String} (h : Str.ofString a = Str.ofString b) : a = b := by
  rw [Str.ofString_eq_toList, Str.ofString_eq_toList] at h
  have h1 : a.toList.map Char.toNat = b.toList.map Char.toNat := by
    have := congrArg Str.cps h
    simpa using this
  have inj : ∀ (l l' : List Char), l.map Char.toNat = l'.map Char.toNat → l = l' := by
    intro l
    induction l with
    | nil => intro l' e; cases l' with | nil => rfl | cons _ _ => cases e
    | cons c l ih =>
      intro l' e
      cases l' with
      | nil => cases e
      | cons d l' =>
        simp only [List.map_cons, List.cons.injEq] at e
        rw [ih l' e.2, Char.ext (UInt32.toNat_inj.mp e.1)]
  exact String.ext_iff.mpr (inj _ _ h1)
structure Cx where
  prog : Program
  w : World
  h0 : Heap
  K : Frag
  mg : Str → Option Value
  mb : Str → Option Value
structure Cx.Ok (C : Cx) : Prop where
  X : C.K.In C.h0
  g : C.h0.Ns mainGlobals C.mg
  b : C.h0.Ns builtinsNs C.mb
  lim : C.h0.NoLimit
noncomputable abbrev Cx.HR (C : Cx) (μ : List Sl) (h : Heap) (H : Hp) : Prop := Mine.HR C.prog C.w C.h0 μ h H
noncomputable abbrev Cx.VR (C : Cx) (μ : List Sl) (h : Heap) (v : V) (x : Value) : Prop := Mine.VR C.h0 μ h v x
noncomputable abbrev Cx.VRs (C : Cx) (μ : List Sl) (h : Heap) (v : List V) (x : List Value) : Prop := Mine.VRs C.h0 μ h v x
noncomputable abbrev Cx.Stp (C : Cx) (μ : List Sl) (W : Addr → Prop) (s : Shared) (μ' : List Sl) (s' : Shared) (H' : Hp) : Prop := Mine.Stp C.prog C.w C.h0 μ W s μ' s' H'
noncomputable abbrev Cx.wp {α : Type} (C : Cx) (A : Around) (t : Sem α) (Q : α → Shared → Prop) (s : Shared) : Prop := wpAny (model C.prog C.w) A t Q (fun _ _ => False) s
structure Room (A : Around) (k : Nat) : Prop where
  handled : A.handled = none
  depth : A.depth + 3 * k ≤ 900
  units : A.units + 20 * k ≤ 9000
theorem Room.mono {A : Around} {k k' : Nat} (r : Room A k) (h : k' ≤ k) : Room A k' := ⟨r.handled, by have := r.depth; omega, by have := r.units; omega⟩
theorem Room.d {A : Around} {k : Nat} (r : Room A k) : A.depth < recursionLimit := by have := r.depth; unfold recursionLimit; omega
theorem Room.u {A : Around} {k : Nat} (r : Room A k) : A.units + 100 < cLine := by have := r.units; unfold cLine; omega
theorem Room.deeper {A : Around} {k : Nat} (r : Room A (k + 1)) (env : Env) : Room (A.deeper env) k := ⟨r.handled, by have := r.depth; show A.depth + 1 + _ ≤ _; omega, by have := r.units; show A.units + 3 + _ ≤ _; omega⟩
structure EnvOk (env : Env) : Prop where
  kind : env.scope.kind = .function
  globals : env.globals = mainGlobals
  builtins : env.builtins = builtinsNs
noncomputable def FA (env : Env) (a : Addr) : Prop := a = env.locals ∨ ∃ n, (n, a) ∈ env.cells
structure FR (C : Cx) (env : Env) (μ : List Sl) (h : Heap) (m : Loc) : Prop where
  ns : ∃ ml, h.Ns env.locals ml ∧ ∀ x X, m x = some X → env.kindOf (Str.ofString x) = some .local → ∃ v, ml (Str.ofString x) = some v ∧ C.VR μ h X v
  cell : ∀ x X, m x = some X → env.kindOf (Str.ofString x) = some .cell → ∃ c v, env.cells.lookup (Str.ofString x) = some c ∧ h.IsCell c (some v) ∧ C.VR μ h X v
  has : ∀ n, env.kindOf n = some .cell → ∃ c, env.cells.lookup n = some c
  ex : ∀ n c, (n, c) ∈ env.cells → ∃ v, h.IsCell c v
  apart : env.cells.Pairwise fun x y => x.2 ≠ y.2
  off : ∀ n c, (n, c) ∈ env.cells → c ≠ env.locals
  low : ∀ a, FA env a → C.h0.objs.size ≤ a ∧ ¬ madr μ a
section
variable {C : Cx} {env : Env} {μ μ' : List Sl} {h h' : Heap} {m : Loc} {s s' : Shared} {H H' : Hp}
theorem FR.lt (F : FR C env μ h m) {a : Addr} (f : FA env a) : a < h.objs.size := by
  rcases f with rfl | ⟨n, hm⟩
  · obtain ⟨ml, e, _⟩ := F.ns; exact e.lt
  · obtain ⟨v, e⟩ := F.ex n a hm; exact e.lt
theorem FR.notTup (F : FR C env μ h m) {a : Addr} {vs : List Value} (f : FA env a) (e : h.get? a = some (tupObj vs)) : False := by
  rcases f with rfl | ⟨n, hm⟩
  · obtain ⟨ml, ⟨o', es, ep, e', d, _⟩, _⟩ := F.ns
    rw [e] at e'; cases e'
    cases d
  · obtain ⟨v, o', e', d⟩ := F.ex n a hm
    rw [e] at e'; cases e'
    cases d
theorem IsCell.at {h h' : Heap} {c : Addr} {v : Option Value} (x : h.IsCell c v) (k : ∀ o, h.get? c = some o → h'.get? c = some o) : h'.IsCell c v :=
  let ⟨o, ho, hd⟩ := x; ⟨o, k o ho, hd⟩
/-- the frame stays where its own objects stay -/
theorem FR.keeps (F : FR C env μ h m) (k : ∀ a, FA env a → ∀ o, h.get? a = some o → h'.get? a = some o) (t : TupKeep h h') (p : Pre μ μ') (fr : ∀ a, madr μ' a → madr μ a ∨ h.objs.size ≤ a) : FR C env μ' h' m := by
  refine ⟨?_, fun x X e q => ?_, F.has, fun n c hm => ?_, F.apart, F.off, fun a f => ⟨(F.low a f).1, fun q => ?_⟩⟩
  · obtain ⟨ml, e, r⟩ := F.ns
    refine ⟨ml, e.at' fun o => k _ (.inl rfl) o, fun x X q z => ?_⟩
    obtain ⟨v, a, b⟩ := r x X q z
    exact ⟨v, a, b.mono t p⟩
  · obtain ⟨c, v, a, b, d⟩ := F.cell x X e q
    exact ⟨c, v, a, IsCell.at b fun o => k _ (.inr ⟨_, mem_of_lookup a⟩) o, d.mono t p⟩
  · obtain ⟨v, e⟩ := F.ex n c hm
    exact ⟨v, IsCell.at e fun o => k _ (.inr ⟨n, hm⟩) o⟩
  · rcases fr a q with q | q
    · exact (F.low a f).2 q
    · exact lt_no (F.lt f) q
theorem Stp.tup0 (R : C.HR μ s.heap H) (x : C.Stp μ noW s μ' s' H') : TupKeep s.heap s'.heap := x.tup R fun _ _ q => q.elim
theorem FR.stp (F : FR C env μ s.heap m) (R : C.HR μ s.heap H) (x : C.Stp μ noW s μ' s' H') : FR C env μ' s'.heap m :=
  F.keeps (fun a f o e => x.keep a o e (F.low a f).2 fun q => q.elim) (x.tup0 R) x.pre x.fresh
theorem Stp.tupF (F : FR C env μ s.heap m) (R : C.HR μ s.heap H) (x : C.Stp μ (FA env) s μ' s' H') : TupKeep s.heap s'.heap := x.tup R fun _ _ q e => F.notTup q e
/-- a local name is stored -/
theorem FR.setLocal (F : FR C env μ h m) (R : C.HR μ h H) {x : String} {X : V} {v : Value} {ml : Str → Option Value} (k : env.kindOf (Str.ofString x) = some .local) (hs : Heap.SameBut env.locals h h')
    (e : h'.Ns env.locals fun y => if y = Str.ofString x then some v else ml y) (e0 : ∀ y Y, m y = some Y → env.kindOf (Str.ofString y) = some .local → ∃ v, ml (Str.ofString y) = some v ∧ C.VR μ h Y v) (r : C.VR μ h X v) : FR C env μ h' (upd m x X) := by
  have t : TupKeep h h' := fun a o q => (hs.2 a fun z => F.notTup (.inl z) q).trans q
  have cc : ∀ n c, (n, c) ∈ env.cells → ∀ o, h.get? c = some o → h'.get? c = some o := fun n c hm o q => (hs.2 c (F.off n c hm)).trans q
  refine ⟨⟨_, e, fun y Y q z => ?_⟩, fun y Y q z => ?_, F.has, fun n c hm => ?_, F.apart, F.off, F.low⟩
  · unfold upd at q
    by_cases hy : y = x
    · subst hy
      rw [if_pos rfl] at q; cases q
      exact ⟨v, by rw [if_pos rfl], r.mono t (.refl _)⟩
    · rw [if_neg hy] at q
      obtain ⟨u, a, b⟩ := e0 y Y q z
      by_cases hx : Str.ofString y = Str.ofString x
      · exact absurd (ofString_inj hx) hy
      · exact ⟨u, by rw [if_neg hx]; exact a, b.mono t (.refl _)⟩
  · unfold upd at q
    by_cases hy : y = x
    · subst hy; rw [k] at z; cases z
    · rw [if_neg hy] at q
      obtain ⟨c, u, a, b, d⟩ := F.cell y Y q z
      exact ⟨c, u, a, IsCell.at b (cc _ _ (mem_of_lookup a)), d.mono t (.refl _)⟩
  · obtain ⟨u, q⟩ := F.ex n c hm
    exact ⟨u, IsCell.at q (cc n c hm)⟩
/-- a cell's name is stored -/
theorem FR.setCell (F : FR C env μ h m) (R : C.HR μ h H) {x : String} {X : V} {v : Value} {c : Addr} (k : env.kindOf (Str.ofString x) = some .cell) (hc : env.cells.lookup (Str.ofString x) = some c) (hs : Heap.SameBut c h h')
    (e : h'.IsCell c (some v)) (r : C.VR μ h X v) : FR C env μ h' (upd m x X) := by
  have mc := mem_of_lookup hc
  have t : TupKeep h h' := fun a o q => (hs.2 a fun z => F.notTup (.inr ⟨_, z ▸ mc⟩) q).trans q
  refine ⟨?_, fun y Y q z => ?_, F.has, fun n c' hm => ?_, F.apart, F.off, F.low⟩
  · obtain ⟨ml, e', r'⟩ := F.ns
    refine ⟨ml, e'.at' fun o q => (hs.2 _ (Ne.symm (F.off _ _ mc))).trans q, fun y Y q z => ?_⟩
    unfold upd at q
    by_cases hy : y = x
    · subst hy; rw [k] at z; cases z
    · rw [if_neg hy] at q
      obtain ⟨u, a, b⟩ := r' y Y q z
      exact ⟨u, a, b.mono t (.refl _)⟩
  · unfold upd at q
    by_cases hy : y = x
    · subst hy
      rw [if_pos rfl] at q; cases q
      exact ⟨c, v, hc, e, r.mono t (.refl _)⟩
    · rw [if_neg hy] at q
      obtain ⟨c', u, a, b, d⟩ := F.cell y Y q z
      refine ⟨c', u, a, IsCell.at b fun o q' => (hs.2 _ fun q2 => ?_).trans q', d.mono t (.refl _)⟩
      subst q2
      exact hy (ofString_inj (name_of_addr F.apart (mem_of_lookup a) mc))
  · by_cases hcc : c' = c
    · subst hcc; exact ⟨_, e⟩
    · obtain ⟨u, q⟩ := F.ex n c' hm
      exact ⟨u, IsCell.at q fun o q' => (hs.2 _ hcc).trans q'⟩
end
/-! the simulations -/
structure SimE (C : Cx) (k : Nat) (nm : List (Str × NameKind)) (e : Expr) (f : Ex) : Prop where
  r : ∀ (A : Around) (env : Env) (s : Shared) (μ : List Sl) (H : Hp) (m : Loc), Room A k → EnvOk env → env.scope.names = nm → FR C env μ s.heap m → C.HR μ s.heap H →
    ∀ X H', f m H = some (X, H') → C.wp A (eval e env) (fun v s' => ∃ μ', C.Stp μ noW s μ' s' H' ∧ C.VR μ' s'.heap X v) s
structure SimT (C : Cx) (k : Nat) (nm : List (Str × NameKind)) (e : Expr) (f : Tx) : Prop where
  r : ∀ (A : Around) (env : Env) (s : Shared) (μ : List Sl) (H : Hp) (m : Loc), Room A k → EnvOk env → env.scope.names = nm → FR C env μ s.heap m → C.HR μ s.heap H →
    ∀ b H', f m H = some (b, H') → C.wp A (isTrue e env (eval e env)) (fun v s' => v = b ∧ ∃ μ', C.Stp μ noW s μ' s' H') s
noncomputable def FlR (C : Cx) (μ : List Sl) (h : Heap) : Fl → Flow → Prop
  | .next, .next => True
  | .cont, .cont => True
  | .ret X, .ret v => C.VR μ h X v
  | _, _ => False
structure SimS (C : Cx) (k : Nat) (nm : List (Str × NameKind)) (st : Stmt) (f : Sx) : Prop where
  r : ∀ (A : Around) (env : Env) (s : Shared) (μ : List Sl) (H : Hp) (m : Loc), Room A k → EnvOk env → env.scope.names = nm → FR C env μ s.heap m → C.HR μ s.heap H →
    ∀ fl m' H', f m H = some (fl, m', H') → C.wp A (exec st env) (fun v s' => ∃ μ', C.Stp μ (FA env) s μ' s' H' ∧ FR C env μ' s'.heap m' ∧ FlR C μ' s'.heap fl v) s
structure SimSs (C : Cx) (k : Nat) (nm : List (Str × NameKind)) (st : List Stmt) (f : Sx) : Prop where
  r : ∀ (A : Around) (env : Env) (s : Shared) (μ : List Sl) (H : Hp) (m : Loc), Room A k → EnvOk env → env.scope.names = nm → FR C env μ s.heap m → C.HR μ s.heap H →
    ∀ fl m' H', f m H = some (fl, m', H') → C.wp A (execs st env) (fun v s' => ∃ μ', C.Stp μ (FA env) s μ' s' H' ∧ FR C env μ' s'.heap m' ∧ FlR C μ' s'.heap fl v) s
structure SimFn (C : Cx) (k : Nat) (a : Addr) (f : Fn) : Prop where
  r : ∀ (A : Around) (s : Shared) (μ : List Sl) (H : Hp) (Xs : List V) (vs : List Value), Room A k → C.HR μ s.heap H → C.VRs μ s.heap Xs vs →
    ∀ X H', f Xs H = some (X, H') → codeAny (model C.prog C.w) A (.call (.ref a) ⟨vs, []⟩) (fun r s' => ∃ μ' v, r = .ok (.ret v) ∧ C.Stp μ noW s μ' s' H' ∧ C.VR μ' s'.heap X v) s
/-! what a value is, read off -/
noncomputable def V.asI : V → Option Int
  | .int i => some i
  | _ => Option.none
noncomputable def V.asB : V → Option Bool
  | .bool b => some b
  | _ => Option.none
noncomputable def V.asT : V → Option (List V)
  | .tup vs => some vs
  | _ => Option.none
noncomputable def V.asR : V → Option Nat
  | .ref r => some r
  | _ => Option.none
noncomputable def O.asL : O → Option (List V)
  | .list vs => some vs
  | _ => Option.none
noncomputable def V.asL (H : Hp) (x : V) : Option (List V) := x.asR.bind fun r => H[r]?.bind O.asL
/-- a list, or a list from without -/
noncomputable def V.asS (H : Hp) (x : V) : Option (List V) := match x with
  | .frz vs => if vs.length ≤ big then some vs else Option.none
  | x => x.asL H
noncomputable def O.asD : O → Option Dct
  | .dict D => some D
  | _ => Option.none
theorem O.asD_some {o : O} {D : Dct} (h : o.asD = some D) : o = .dict D := by cases o <;> cases h; rfl
noncomputable def one? : List V → Option V
  | [a] => some a
  | _ => Option.none
theorem one_some {l : List V} {a : V} (h : one? l = some a) : l = [a] := by
  cases l with
  | nil => cases h
  | cons b l => cases l with
    | nil => cases h; rfl
    | cons _ _ => cases h
/-- a tuple or a list -/
noncomputable def V.asW (H : Hp) (x : V) : Option (List V) := match x with
  | .tup vs => if vs.length ≤ big then some vs else Option.none
  | x => x.asL H
noncomputable def O.asN (c : Addr) (o : O) : Option (List (String × V)) := match o with
  | .inst c' fs => if c' = c then some fs else none
  | _ => none
noncomputable def V.asN (c : Addr) (H : Hp) (x : V) : Option (Nat × List (String × V)) := x.asR.bind fun r => (H[r]?.bind (O.asN c)).map fun fs => (r, fs)
noncomputable def int2 (x y : V) : Option (Int × Int) := x.asI.bind fun a => y.asI.map fun b => (a, b)
theorem V.asI_some {x : V} {i : Int} (h : x.asI = some i) : x = .int i := by cases x <;> cases h; rfl
theorem V.asB_some {x : V} {b : Bool} (h : x.asB = some b) : x = .bool b := by cases x <;> cases h; rfl
theorem V.asT_some {x : V} {vs : List V} (h : x.asT = some vs) : x = .tup vs := by cases x <;> cases h; rfl
theorem V.asR_some {x : V} {r : Nat} (h : x.asR = some r) : x = .ref r := by cases x <;> cases h; rfl
theorem O.asL_some {o : O} {vs : List V} (h : o.asL = some vs) : o = .list vs := by cases o <;> cases h; rfl
theorem V.asL_some {H : Hp} {x : V} {vs : List V} (h : x.asL H = some vs) : ∃ r, x = .ref r ∧ H[r]? = some (.list vs) := by
  obtain ⟨r, e, h⟩ := Option.bind_eq_some_iff.mp h
  obtain ⟨o, e2, h⟩ := Option.bind_eq_some_iff.mp h
  exact ⟨r, V.asR_some e, O.asL_some h ▸ e2⟩
theorem V.asL_ref {H : Hp} {r : Nat} {vs : List V} (h : H[r]? = some (.list vs)) : (V.ref r).asL H = some vs := by
  show H[r]?.bind O.asL = _
  rw [h]; rfl
theorem V.asW_some {H : Hp} {x : V} {vs : List V} (h : x.asW H = some vs) : (x = .tup vs ∧ vs.length ≤ big) ∨ ∃ r, x = .ref r ∧ H[r]? = some (.list vs) := by
  cases x with
  | tup ws =>
    by_cases z : ws.length ≤ big
    · cases (if_pos z).symm.trans h
      exact .inl ⟨rfl, z⟩
    · cases (if_neg z).symm.trans h
  | _ => exact .inr (V.asL_some h)
theorem V.asN_some {c : Addr} {H : Hp} {x : V} {p : Nat × List (String × V)} (h : x.asN c H = some p) : x = .ref p.1 ∧ H[p.1]? = some (.inst c p.2) := by
  obtain ⟨r, e, h⟩ := Option.bind_eq_some_iff.mp h
  obtain ⟨fs, h2, e3⟩ := Option.map_eq_some_iff.mp h
  obtain ⟨o, e2, h⟩ := Option.bind_eq_some_iff.mp h2
  subst e3
  refine ⟨V.asR_some e, e2.trans ?_⟩
  cases o with
  | inst c' gs =>
    by_cases z : c' = c
    · cases (if_pos z).symm.trans h
      rw [z]
    · cases (if_neg z).symm.trans h
  | _ => cases h
theorem V.asN_ref {c : Addr} {H : Hp} {r : Nat} {fs : List (String × V)} (h : H[r]? = some (.inst c fs)) : (V.ref r).asN c H = some (r, fs) := by
  show (H[r]?.bind (O.asN c)).map _ = _
  rw [h]
  show (if c = c then some fs else Option.none).map _ = _
  rw [if_pos rfl]; rfl
theorem int2_some {x y : V} {p : Int × Int} (h : int2 x y = some p) : x = .int p.1 ∧ y = .int p.2 := by
  obtain ⟨a, e1, h⟩ := Option.bind_eq_some_iff.mp h
  obtain ⟨b, e2, rfl⟩ := Option.map_eq_some_iff.mp h
  exact ⟨V.asI_some e1, V.asI_some e2⟩
theorem IsList.of {h : Heap} {a : Addr} {vs : List Value} {n : Nat} (e : h.get? a = some (listOf vs.toArray n)) : h.IsList a vs.toArray := ⟨_, e, rfl, n, rfl⟩
theorem IsTup.of {h : Heap} {a : Addr} {vs : List Value} (e : h.get? a = some (tupObj vs)) : IsTup h a vs.toArray := ⟨_, e, rfl, 0, rfl⟩
section
variable {C : Cx} {μ : List Sl} {h : Heap} {H : Hp} {u v : Value} {Vs : List V} {x y : V}
theorem int_inv {i : Int} (r : C.VR μ h (.int i) u) : ∃ t, u = .int i t := by cases r; exact ⟨_, rfl⟩
theorem bool_inv {b : Bool} (r : C.VR μ h (.bool b) u) : u = .bool b := by cases r; rfl
theorem str_inv {s : String} (r : C.VR μ h (.str s) u) : ∃ t, u = .str (Str.ofString s) t := by cases r; exact ⟨_, rfl⟩
theorem ref_inv {i : Nat} (r : C.VR μ h (.ref i) u) : ∃ sl, μ[i]? = some sl ∧ u = .ref sl.a := by cases r with | ref e => exact ⟨_, e, rfl⟩
/-- a tuple -/
inductive VTup (C : Cx) (μ : List Sl) (h : Heap) (Vs : List V) (u : Value) : Prop
  | mk (a : Addr) (vs : List Value) (e : u = .ref a) (g : h.get? a = some (tupObj vs)) (r : C.VRs μ h Vs vs) : VTup C μ h Vs u
theorem tup_inv (r : C.VR μ h (.tup Vs) u) : VTup C μ h Vs u := by cases r with | tup e r => exact ⟨_, _, rfl, e, r⟩
/-- a list -/
inductive VLst (C : Cx) (μ : List Sl) (h : Heap) (i : Nat) (Vs : List V) (u : Value) : Prop
  | mk (sl : Sl) (vs : List Value) (n : Nat) (m : μ[i]? = some sl) (e : u = .ref sl.a) (g : h.get? sl.a = some (listOf vs.toArray n)) (d : sl.d = sl.a) (r : C.VRs μ h Vs vs) (z : Vs.length ≤ big) : VLst C μ h i Vs u
theorem lst_inv (R : C.HR μ h H) {i : Nat} (g : H[i]? = some (.list Vs)) (r : C.VR μ h (.ref i) u) : VLst C μ h i Vs u := by
  obtain ⟨sl, e, rfl⟩ := ref_inv r
  cases R.objs i sl _ e g with | list a d r z => exact ⟨sl, _, _, e, rfl, a, d, r, z⟩
/-- a list, or a list from without -/
inductive VSeq (C : Cx) (μ : List Sl) (h : Heap) (Vs : List V) (u : Value) : Prop
  | mk (a : Addr) (vs : List Value) (e : u = .ref a) (g : h.IsList a vs.toArray) (r : C.VRs μ h Vs vs) (z : Vs.length ≤ big) : VSeq C μ h Vs u
theorem seq_inv (R : C.HR μ h H) (r : C.VR μ h x u) (e : x.asS H = some Vs) : VSeq C μ h Vs u := by
  have go : x.asL H = some Vs → VSeq C μ h Vs u := fun e => by
    obtain ⟨i, rfl, g⟩ := V.asL_some e
    cases lst_inv R g r with | mk sl vs n m e g d r z => exact ⟨sl.a, vs, e, IsList.of g, r, z⟩
  cases x with
  | frz ws =>
    cases r with | frz g r => ?_
    by_cases z : ws.length ≤ big
    · cases (if_pos z).symm.trans e
      exact ⟨_, _, rfl, g.at (R.base _), r, z⟩
    · cases (if_neg z).symm.trans e
  | _ => exact go e
/-- a list at a place -/
inductive LAt (C : Cx) (μ : List Sl) (h : Heap) (sl : Sl) (Vs : List V) : Prop
  | mk (vs : List Value) (n : Nat) (g : h.get? sl.a = some (listOf vs.toArray n)) (d : sl.d = sl.a) (r : C.VRs μ h Vs vs) (z : Vs.length ≤ big) : LAt C μ h sl Vs
theorem lat (R : C.HR μ h H) {i : Nat} {sl : Sl} (g : H[i]? = some (.list Vs)) (e : μ[i]? = some sl) : LAt C μ h sl Vs := by
  cases R.objs i sl _ e g with | list a d r z => exact ⟨_, _, a, d, r, z⟩
theorem one_inv {l : List Value} {a : V} {Xs : List V} (r : C.VRs μ h Xs l) (e : one? Xs = some a) : ∃ x, l = [x] ∧ C.VR μ h a x := by
  rw [one_some e] at r
  cases r with | cons x r => ?_
  cases r
  exact ⟨_, rfl, x⟩
/-- an object of a class -/
inductive VIns (C : Cx) (μ : List Sl) (h : Heap) (i : Nat) (c : Addr) (fs : List (String × V)) (u : Value) : Prop
  | mk (sl : Sl) (ds : List DictEntry) (n : Nat) (m : μ[i]? = some sl) (e : u = .ref sl.a) (a1 : h.get? sl.a = some (instObj c sl.d)) (d1 : h.get? sl.d = some (dictObj ds n)) (fe : FEs C.h0 μ h fs ds) (nd : (fs.map (·.1)).Nodup) (z : fs.length ≤ 50) : VIns C μ h i c fs u
theorem ins_inv (R : C.HR μ h H) {i : Nat} {c : Addr} {fs : List (String × V)} (g : H[i]? = some (.inst c fs)) (r : C.VR μ h (.ref i) u) : VIns C μ h i c fs u := by
  obtain ⟨sl, e, rfl⟩ := ref_inv r
  cases R.objs i sl _ e g with | inst a d r n z => exact ⟨sl, _, _, e, rfl, a, d, r, n, z⟩
theorem int2_inv {p : Int × Int} (hx : C.VR μ h x u) (hy : C.VR μ h y v) (e : int2 x y = some p) : ∃ t1 t2, u = .int p.1 t1 ∧ v = .int p.2 t2 := by
  obtain ⟨rfl, rfl⟩ := int2_some e
  obtain ⟨t1, rfl⟩ := int_inv hx
  obtain ⟨t2, rfl⟩ := int_inv hy
  exact ⟨t1, t2, rfl, rfl⟩
end
/-! expressions -/
namespace E
@[simp] noncomputable def const (X : V) : Ex := fun _ H => some (X, H)
@[simp] noncomputable def var (x : String) : Ex := fun m H => (m x).map fun X => (X, H)
@[simp] noncomputable def evs : List Ex → Loc → Hp → Option (List V × Hp)
  | [], _, H => some ([], H)
  | f :: fs, m, H => (f m H).bind fun p => (evs fs m p.2).map fun q => (p.1 :: q.1, q.2)
@[simp] noncomputable def tup (fs : List Ex) : Ex := fun m H => (evs fs m H).map fun p => (.tup p.1, p.2)
@[simp] noncomputable def list (fs : List Ex) : Ex := fun m H => (evs fs m H).map fun p => (.ref p.2.length, p.2 ++ [.list p.1])
@[simp] noncomputable def dict0 : Ex := fun _ H => some (.ref H.length, H ++ [.dict .emp])
noncomputable def fld (c : Addr) (f : String) (X : V) (H : Hp) : Option V := (X.asN c H).bind fun p => p.2.lookup f
@[simp] noncomputable def attr (c : Addr) (f : String) (o : Ex) : Ex := fun m H => (o m H).bind fun p => (fld c f p.1 p.2).map fun X => (X, p.2)
end E
section
variable {C : Cx} {k : Nat} {nm : List (Str × NameKind)}
theorem kindOf_nm {env : Env} {x : Str} (h : env.scope.names = nm) : env.kindOf x = nm.lookup x := by unfold Env.kindOf; rw [h]
theorem wp_mono {C : Cx} {A : Around} {α : Type} {t : Sem α} {Q Q' : α → Shared → Prop} {s : Shared} (h : C.wp A t Q s) (hq : ∀ a s, Q a s → Q' a s) : C.wp A t Q' s := wpAny_mono h hq fun _ _ x => x
theorem wp_any {C : Cx} {A : Around} {α : Type} {t : Sem α} {Q : α → Shared → Prop} {E : Value → Shared → Prop} {s : Shared} (h : C.wp A t Q s) : wpAny (model C.prog C.w) A t Q E s := wpAny_mono h (fun _ _ x => x) fun _ _ x => x.elim
theorem SimE.local {x : String} {pos : Pos} (hl : nm.lookup (Str.ofString x) = some .local) (hd : (Str.ofString x == ("__debug__" : Str)) = false) : SimE C k nm (.Name (Str.ofString x) pos) (E.var x) := by
  refine ⟨?_⟩
  intro A env s μ H m r e hn F R X H' hf
  unfold E.var at hf
  obtain ⟨Y, hy, hp⟩ := Option.map_eq_some_iff.mp hf
  cases hp
  have hk : env.kindOf (Str.ofString x) = some .local := by rw [kindOf_nm hn, hl]
  obtain ⟨ml, ns, q⟩ := F.ns
  obtain ⟨v, a, b⟩ := q x X hy hk
  exact wpAny_Name (wpAny_loadName_local e.kind hk ns a ⟨μ, .refl R, b⟩) hd
theorem SimE.cell {x : String} {pos : Pos} (hl : nm.lookup (Str.ofString x) = some .cell) (hd : (Str.ofString x == ("__debug__" : Str)) = false) : SimE C k nm (.Name (Str.ofString x) pos) (E.var x) := by
  refine ⟨?_⟩
  intro A env s μ H m r e hn F R X H' hf
  unfold E.var at hf
  obtain ⟨Y, hy, hp⟩ := Option.map_eq_some_iff.mp hf
  cases hp
  have hk : env.kindOf (Str.ofString x) = some .cell := by rw [kindOf_nm hn, hl]
  obtain ⟨c, v, a, b, d⟩ := F.cell x X hy hk
  exact wpAny_Name (wpAny_loadName_cell e.kind hk a b ⟨μ, .refl R, d⟩) hd
/-- a module's name that holds a value -/
noncomputable def GV (C : Cx) (x : String) (X : V) : Prop := ∃ v, C.mg (Str.ofString x) = some v ∧ ∀ μ h, (∀ b o, C.h0.get? b = some o → h.get? b = some o) → C.VR μ h X v
theorem SimE.glob (G : C.Ok) {x : String} {pos : Pos} {X : V} (hg : GV C x X) (hl : nm.lookup (Str.ofString x) = some .globalImplicit) (hd : (Str.ofString x == ("__debug__" : Str)) = false) : SimE C k nm (.Name (Str.ofString x) pos) (E.const X) := by
  refine ⟨?_⟩
  intro A env s μ H m r e hn F R Y H' hf
  cases hf
  have hk : env.kindOf (Str.ofString x) = some .globalImplicit := by rw [kindOf_nm hn, hl]
  obtain ⟨v, a, b⟩ := hg
  exact Name_function_global e.kind hk (loadGlobal_global (env := env) (by rw [e.globals]; exact G.g.keeps R.base) a ⟨μ, .refl R, b μ _ R.base⟩) hd
theorem SimE.int {i : Int} {n : Nat} {pos : Pos} : SimE C k nm (.Constant (.int i) n pos) (E.const (.int i)) := by
  refine ⟨?_⟩
  intro A env s μ H m r e hn F R Y H' hf
  cases hf
  exact wpAny_Constant_int ⟨μ, .toks R _, .int _ _⟩
theorem SimE.str {x : String} {n : Nat} {pos : Pos} : SimE C k nm (.Constant (.str (Str.ofString x)) n pos) (E.const (.str x)) := by
  refine ⟨?_⟩
  intro A env s μ H m r e hn F R Y H' hf
  cases hf
  exact Constant_str ⟨μ, .toks R _, .str _ _⟩
theorem SimE.bool {b : Bool} {n : Nat} {pos : Pos} : SimE C k nm (.Constant (.bool b) n pos) (E.const (.bool b)) := by
  refine ⟨?_⟩
  intro A env s μ H m r e hn F R Y H' hf
  cases hf
  exact wpAny_pure ⟨μ, .refl R, .bool _⟩
/-- lists of arguments -/
noncomputable def notStar : Expr → Bool
  | .Starred _ _ => false
  | _ => true
theorem starEach_cons {e : Expr} {es : List Expr} {env : Env} (h : notStar e = true) : starEach (e :: es) env = (false, eval e env) :: starEach es env := by
  cases e <;> first | rfl | cases h
inductive SimA (C : Cx) (k : Nat) (nm : List (Str × NameKind)) : List Expr → List Ex → Prop
  | nil : SimA C k nm [] []
  | cons {e : Expr} {f : Ex} {es : List Expr} {fs : List Ex} : SimE C k nm e f → notStar e = true → SimA C k nm es fs → SimA C k nm (e :: es) (f :: fs)
theorem SimA.length {es : List Expr} {fs : List Ex} (h : SimA C k nm es fs) : es.length = fs.length := by
  induction h with
  | nil => rfl
  | cons _ _ _ ih => simp [ih]
theorem evs_length : ∀ {fs : List Ex} {m : Loc} {H H' : Hp} {Xs : List V}, E.evs fs m H = some (Xs, H') → Xs.length = fs.length
  | [], _, _, _, _, h => by cases h; rfl
  | f :: fs, m, H, H', Xs, h => by
    unfold E.evs at h
    obtain ⟨p, hp, h⟩ := Option.bind_eq_some_iff.mp h
    obtain ⟨q, hq, h⟩ := Option.map_eq_some_iff.mp h
    cases h
    simp [evs_length hq]
theorem SimA.run {es : List Expr} {fs : List Ex} (h : SimA C k nm es fs) (pos : Pos) : ∀ (A : Around) (env : Env) (s : Shared) (μ : List Sl) (H : Hp) (m : Loc), Room A k → EnvOk env → env.scope.names = nm → FR C env μ s.heap m → C.HR μ s.heap H →
    ∀ Xs H', E.evs fs m H = some (Xs, H') → C.wp A (spliced (backTo pos (starEach es env))) (fun vs s' => ∃ μ', C.Stp μ noW s μ' s' H' ∧ C.VRs μ' s'.heap Xs vs) s := by
  induction h with
  | nil =>
    intro A env s μ H m r e hn F R Xs H' hf
    cases hf
    exact spliced_nil ⟨μ, .refl R, .nil⟩
  | @cons ex f es fs h1 hs h2 ih =>
    intro A env s μ H m r e hn F R Xs H' hf
    unfold E.evs at hf
    obtain ⟨p, hp, hf⟩ := Option.bind_eq_some_iff.mp hf
    obtain ⟨q, hq, hf⟩ := Option.map_eq_some_iff.mp hf
    cases hf
    rw [starEach_cons hs]
    show C.wp A (spliced ((false, eval ex env) :: backTo pos (starEach es env))) _ s
    refine spliced_cons (wp_mono (h1.r A env s μ H m r e hn F R _ _ hp) fun v s1 z => ?_)
    obtain ⟨μ1, S1, r1⟩ := z
    refine wp_mono (ih A env s1 μ1 _ m r e hn (F.stp R S1) S1.hr _ _ hq) fun vs s2 z => ?_
    obtain ⟨μ2, S2, r2⟩ := z
    exact ⟨μ2, S1.trans S2, .cons (r1.mono (S2.tup0 S1.hr) S2.pre) r2⟩
theorem SimE.tup {es : List Expr} {fs : List Ex} {n : Nat} {pos : Pos} (h : SimA C k nm es fs) (hl : Nat.ble es.length 1000 = true) : SimE C k nm (.Tuple es n pos) (E.tup fs) := by
  have hl : es.length ≤ 1000 := Nat.le_of_ble_eq_true hl
  refine ⟨?_⟩
  intro A env s μ H m r e hn F R X H' hf
  unfold E.tup at hf
  obtain ⟨p, hp, hf⟩ := Option.map_eq_some_iff.mp hf
  cases hf
  refine Tuple_ (wp_mono (h.run pos A env s μ H m r e hn F R _ _ hp) fun vs s1 z => ?_)
  obtain ⟨μ1, S1, r1⟩ := z
  have hlen : vs.length ≤ 1000 := by rw [r1.length, evs_length hp, ← h.length]; exact hl
  have k1 : ∀ b o, s1.heap.get? b = some o → (s1.heap.push (tupObj vs)).get? b = some o := fun b o q => Heap.get?_push_of_some _ q
  refine wpAny_newObj_type ⟨μ1, S1.trans (.grow S1.hr k1 (by rw [Heap.size_push]; exact Nat.le_succ _) _), .tup (Heap.get?_push_size _ rfl) (r1.mono (fun a vs q => k1 _ _ q) (.refl _))⟩ ?_
  show vs.toArray.size ≤ sizeLine
  rw [List.size_toArray, sizeLine_eq]; omega
theorem SimE.list {es : List Expr} {fs : List Ex} {pos : Pos} (h : SimA C k nm es fs) (hl : Nat.ble es.length 1000 = true) : SimE C k nm (.List es pos) (E.list fs) := by
  have hl : es.length ≤ 1000 := Nat.le_of_ble_eq_true hl
  refine ⟨?_⟩
  intro A env s μ H m r e hn F R X H' hf
  unfold E.list at hf
  obtain ⟨p, hp, hf⟩ := Option.map_eq_some_iff.mp hf
  cases hf
  refine List_ (wp_mono (h.run pos A env s μ H m r e hn F R _ _ hp) fun vs s1 z => ?_)
  obtain ⟨μ1, S1, r1⟩ := z
  have hlen : p.1.length ≤ 1000 := by rw [evs_length hp, ← h.length]; exact hl
  have k1 : ∀ b o, s1.heap.get? b = some o → (s1.heap.push (listOf vs.toArray 0)).get? b = some o := fun b o q => Heap.get?_push_of_some _ q
  have hx : (μ1 ++ [⟨s1.heap.objs.size, s1.heap.objs.size⟩])[p.2.length]? = some ⟨s1.heap.objs.size, s1.heap.objs.size⟩ := by rw [← S1.hr.len]; simp
  refine wpAny_newObj_type ⟨μ1 ++ [⟨s1.heap.objs.size, s1.heap.objs.size⟩], S1.trans (.push (sl := ⟨s1.heap.objs.size, s1.heap.objs.size⟩) S1.hr k1 (by rw [Heap.size_push]; exact Nat.le_succ _) (Nat.le_refl _) (Nat.le_refl _)
    (.list (n := 0) (Heap.get?_push_size _ rfl) rfl (r1.mono (fun a vs q => k1 _ _ q) (Pre.snoc _ _)) (by unfold big; omega)) _), .ref hx⟩ ?_
  show vs.toArray.size ≤ sizeLine
  rw [List.size_toArray, sizeLine_eq, r1.length]; omega
end
mutual
noncomputable def toPy : V → PyData
  | .none => .none
  | .bool b => .bool b
  | .int i => .int i
  | .str s => .str (Str.ofString s)
  | .tup vs => .tuple (toPys vs)
  | .ref _ => .dict []
  | .frz _ => .dict []
noncomputable def toPys : List V → List PyData
  | [] => []
  | v :: vs => toPy v :: toPys vs
end
mutual
noncomputable def flatN : Nat → V → Bool
  | _, .none => true
  | _, .int _ => true
  | _, .str _ => true
  | 0, .tup _ => false
  | n + 1, .tup vs => flatsN n vs
  | _, .bool _ => false
  | _, .ref _ => false
  | _, .frz _ => false
noncomputable def flatsN : Nat → List V → Bool
  | _, [] => true
  | n, v :: vs => flatN n v && flatsN n vs
end
noncomputable abbrev flat (v : V) : Bool := flatN 8 v
theorem strOk_ofString (s : String) : PyData.strOk (Str.ofString s) = true := by
  unfold PyData.strOk
  rw [Str.ofString_eq_toList, ← Array.all_toList]
  simp only [List.all_eq_true, List.mem_map, decide_eq_true_eq]
  rintro x ⟨c, _, rfl⟩
  have := c.valid
  show c.val.toNat < 0x110000
  rcases this with h | h
  · have : c.val.toNat < 0xd800 := h
    omega
  · exact h.2
section
variable {C : Cx} {μ : List Sl} {h : Heap}
mutual
theorem VR.reads : ∀ {n : Nat} {X : V} {v : Value}, C.VR μ h X v → flatN n X = true → ∃ as, Reads h v (toPy X) as
  | _, _, _, .none, _ => ⟨_, Reads.none⟩
  | _, _, _, .bool b, _ => ⟨_, Reads.bool b⟩
  | _, _, _, .int i t, _ => ⟨_, Reads.int i t⟩
  | _, _, _, .str x t, _ => ⟨_, Reads.str _ t⟩
  | 0, _, _, .tup _ _, hk => by simp [flatN] at hk
  | n + 1, _, _, .tup hm r, hk => by
    obtain ⟨as, q⟩ := VRs.reads r (n := n) hk
    exact ⟨as, reads_tuple_at hm rfl rfl q⟩
  | n, _, _, .ref _, hk => by cases n <;> simp [flatN] at hk
  | n, _, _, .frz _ _, hk => by cases n <;> simp [flatN] at hk
theorem VRs.reads : ∀ {n : Nat} {Xs : List V} {vs : List Value}, C.VRs μ h Xs vs → flatsN n Xs = true → ∃ as, ReadsAll h vs (toPys Xs) as
  | _, _, _, .nil, _ => ⟨_, ReadsAll.nil⟩
  | n, _, _, .cons a r, hk => by
    simp only [flatsN, Bool.and_eq_true] at hk
    obtain ⟨as, q⟩ := VR.reads a hk.1
    obtain ⟨bs, p⟩ := VRs.reads r hk.2
    exact ⟨_, ReadsAll.cons q p⟩
end
end
mutual
theorem lay_flat : ∀ (n : Nat) (x : V), flatN n x = true → (toPy x).canLay0 = true ∧ (toPy x).depth ≤ n
  | n, .none, _ => ⟨rfl, Nat.zero_le n⟩
  | n, .int i, _ => ⟨rfl, Nat.zero_le n⟩
  | n, .str s, _ => ⟨strOk_ofString s, Nat.zero_le n⟩
  | n + 1, .tup vs, h => ⟨(lay_flats n vs h).1, Nat.succ_le_succ (lay_flats n vs h).2⟩
theorem lay_flats : ∀ (n : Nat) (vs : List V), flatsN n vs = true → PyData.canLayAll0 (toPys vs) = true ∧ PyData.depthAll (toPys vs) ≤ n
  | n, [], _ => ⟨rfl, Nat.zero_le n⟩
  | n, v :: vs, h =>
    have h2 := Bool.and_eq_true_iff.mp h
    ⟨Bool.and_eq_true_iff.mpr ⟨(lay_flat n v h2.1).1, (lay_flats n vs h2.2).1⟩, Nat.max_le.mpr ⟨(lay_flat n v h2.1).2, (lay_flats n vs h2.2).2⟩⟩
end
theorem iff_no {b : Bool} {p : Prop} (h : b = false) (k : ¬ p) : b = true ↔ p := ⟨fun e => Bool.noConfusion (h.symm.trans e), fun q => (k q).elim⟩
mutual
theorem eqv_flat : ∀ {n k : Nat} {x y : V}, flatN n x = true → flatN k y = true → (PyData.eqv (toPy x) (toPy y) = true ↔ x = y)
  | _, _, .none, .none, _, _ => ⟨fun _ => rfl, fun _ => rfl⟩
  | _, _, .int a, .int b, _, _ => (beq_iff_eq (a := a) (b := b)).trans ⟨fun e => congrArg V.int e, fun e => by cases e; rfl⟩
  | _, _, .str a, .str b, _, _ => (beq_iff_eq (a := Str.ofString a) (b := Str.ofString b)).trans ⟨fun e => by rw [ofString_inj e], fun e => by cases e; rfl⟩
  | _ + 1, _ + 1, .tup vs, .tup ws, h, g => (eqvs_flat h g).trans ⟨fun e => congrArg V.tup e, fun e => by cases e; rfl⟩
  | _, _, .none, .int _, _, _ => iff_no rfl nofun
  | _, _, .none, .str _, _, _ => iff_no rfl nofun
  | _, _, .none, .tup _, _, _ => iff_no rfl nofun
  | _, _, .int _, .none, _, _ => iff_no rfl nofun
  | _, _, .int _, .str _, _, _ => iff_no rfl nofun
  | _, _, .int _, .tup _, _, _ => iff_no rfl nofun
  | _, _, .str _, .none, _, _ => iff_no rfl nofun
  | _, _, .str _, .int _, _, _ => iff_no rfl nofun
  | _, _, .str _, .tup _, _, _ => iff_no rfl nofun
  | _, _, .tup _, .none, _, _ => iff_no rfl nofun
  | _, _, .tup _, .int _, _, _ => iff_no rfl nofun
  | _, _, .tup _, .str _, _, _ => iff_no rfl nofun
theorem eqvs_flat : ∀ {n k : Nat} {xs ys : List V}, flatsN n xs = true → flatsN k ys = true → (PyData.eqvAll (toPys xs) (toPys ys) = true ↔ xs = ys)
  | _, _, [], [], _, _ => ⟨fun _ => rfl, fun _ => rfl⟩
  | _, _, [], _ :: _, _, _ => iff_no rfl nofun
  | _, _, _ :: _, [], _, _ => iff_no rfl nofun
  | n, k, x :: xs, y :: ys, h, g => by
    have h2 := Bool.and_eq_true_iff.mp h
    have g2 := Bool.and_eq_true_iff.mp g
    exact (Bool.and_eq_true_iff.trans (and_congr (eqv_flat h2.1 g2.1) (eqvs_flat h2.2 g2.2))).trans (List.cons.injEq .. ▸ Iff.rfl)
end
theorem shaped_flat {n : Nat} {x : V} (hn : n ≤ 60) (hx : flatN n x = true) : SeqAt.shaped (toPy x) = true :=
  Bool.and_eq_true_iff.mpr ⟨(lay_flat n x hx).1, decide_eq_true (Nat.le_trans (lay_flat n x hx).2 (Nat.le_trans hn (by decide)))⟩
noncomputable def dec (p : Prop) : Bool := @decide p (Classical.propDecidable p)
@[simp] theorem dec_eq_true_iff {p : Prop} : dec p = true ↔ p := @decide_eq_true_iff p (Classical.propDecidable p)
@[simp] theorem dec_eq_false_iff {p : Prop} : dec p = false ↔ ¬ p := @decide_eq_false_iff_not p (Classical.propDecidable p)
theorem dec_iff {p : Prop} {b : Bool} (h : b = true ↔ p) : b = dec p := by
  rw [Bool.eq_iff_iff, h, dec_eq_true_iff]
theorem dec_decide {p : Prop} [Decidable p] : dec p = decide p := by
  rw [Bool.eq_iff_iff, dec_eq_true_iff, decide_eq_true_iff]
/-- a < n < b, not to be computed -/
noncomputable def sm (a b n : Int) : Bool := dec (a < n ∧ n < b)
theorem sm_iff {a b n : Int} : sm a b n = true ↔ a < n ∧ n < b := by unfold sm; exact dec_eq_true_iff
/-- == of two values -/
noncomputable def eqV (H : Hp) : V → V → Option Bool
  | .bool a, .bool b => some (a == b)
  | .ref i, .ref j => match H[i]?, H[j]? with
    | some (.list vs), some (.list ws) => if flatsN 8 vs = true ∧ flatsN 8 ws = true then some (dec (vs = ws)) else none
    | _, _ => none
  | x, y => if flat x = true ∧ flat y = true then some (dec (x = y)) else none
section
variable {C : Cx} {μ : List Sl} {A : Around} {s : Shared} {H : Hp} {k : Nat}
theorem eq_flat {x y : V} {v u : Value} {n : Nat} (hn : n ≤ 60) (r : Room A k) (hx : C.VR μ s.heap x v) (hy : C.VR μ s.heap y u) (fx : flatN n x = true) (fy : flatN n y = true) {Q : Value → Shared → Prop} :
    (Q (.bool (dec (x = y))) s → C.wp A (compareOp .Eq v u) Q s) ∧ (Q (.bool (!dec (x = y))) s → C.wp A (compareOp .NotEq v u) Q s) := by
  obtain ⟨as, ra⟩ := VR.reads hx fx
  obtain ⟨bs, rb⟩ := VR.reads hy fy
  have e := dec_iff (eqv_flat fx fy)
  rw [← e]
  have hu := r.u
  exact ⟨fun q => eq_dataH ra rb (shaped_flat hn fx) (shaped_flat hn fy) (by omega) q, fun q => ne_dataH ra rb (shaped_flat hn fx) (shaped_flat hn fy) (by omega) q⟩
theorem shaped_list {vs : List V} {n : Nat} (hn : n ≤ 50) (h : flatsN n vs = true) : SeqAt.shaped (.list (toPys vs)) = true :=
  Bool.and_eq_true_iff.mpr ⟨(lay_flats n vs h).1, decide_eq_true (Nat.le_trans (Nat.succ_le_succ (Nat.le_trans (lay_flats n vs h).2 hn)) (by decide))⟩
theorem eqv_list {n : Nat} {x y : List V} (hx : flatsN n x = true) (hy : flatsN n y = true) : (PyData.eqv (.list (toPys x)) (.list (toPys y)) = true ↔ x = y) := eqvs_flat hx hy
theorem eqV_sim {x y : V} {v u : Value} {b : Bool} (r : Room A k) (R : C.HR μ s.heap H) (hx : C.VR μ s.heap x v) (hy : C.VR μ s.heap y u) (h : eqV H x y = some b) {Q : Value → Shared → Prop} :
    (Q (.bool b) s → C.wp A (compareOp .Eq v u) Q s) ∧ (Q (.bool (!b)) s → C.wp A (compareOp .NotEq v u) Q s) := by
  have hu := r.u
  unfold eqV at h
  split at h
  · cases h
    cases hx; cases hy
    have e : ∀ a b : Bool, PyData.eqv (.bool a) (.bool b) = (a == b) := by intro a b; cases a <;> cases b <;> rfl
    rw [← e]
    exact ⟨fun q => eq_dataH (Reads.bool _) (Reads.bool _) rfl rfl (by omega) q, fun q => ne_dataH (Reads.bool _) (Reads.bool _) rfl rfl (by omega) q⟩
  · split at h
    · rename_i vs ws h1 h2
      split at h
      · rename_i hf
        cases h
        obtain ⟨sl, e1, o1⟩ := R.at h1
        obtain ⟨sl', e2, o2⟩ := R.at h2
        cases hx with | ref e1' => ?_
        cases hy with | ref e2' => ?_
        rw [e1] at e1'; cases e1'
        rw [e2] at e2'; cases e2'
        cases o1 with | list a1 _ r1 _ => ?_
        cases o2 with | list a2 _ r2 _ => ?_
        obtain ⟨as, ra⟩ := VRs.reads r1 hf.1
        obtain ⟨bs, rb⟩ := VRs.reads r2 hf.2
        have e := dec_iff (eqv_list hf.1 hf.2)
        rw [← e]
        exact ⟨fun q => eq_dataH (reads_list_at a1 rfl rfl (by simpa using ra)) (reads_list_at a2 rfl rfl (by simpa using rb)) (shaped_list (by omega) hf.1) (shaped_list (by omega) hf.2) (by omega) q,
          fun q => ne_dataH (reads_list_at a1 rfl rfl (by simpa using ra)) (reads_list_at a2 rfl rfl (by simpa using rb)) (shaped_list (by omega) hf.1) (shaped_list (by omega) hf.2) (by omega) q⟩
      · cases h
    · cases h
  · split at h
    · rename_i hf
      cases h
      exact eq_flat (by omega) r hx hy hf.1 hf.2
    · cases h
end
noncomputable def Dct.asI : Dct → Option ((Int → Option V) × Nat)
  | .emp => some (fun _ => none, 0)
  | .I f n => some (f, n)
  | _ => none
noncomputable def Dct.asS : Dct → Option ((String → Option V) × Nat)
  | .emp => some (fun _ => none, 0)
  | .S f n => some (f, n)
  | _ => none
noncomputable def Dct.asT : Dct → Option ((List Int → Option V) × Nat)
  | .emp => some (fun _ => none, 0)
  | .T f n => some (f, n)
  | _ => none
noncomputable def keyOf (vs : List V) : Option (List Int) := if allInts vs = true then some (intsOf vs) else none
noncomputable def Dct.get (D : Dct) (k : V) : Option (Option V) := match k with
  | .int i => D.asI.map fun p => p.1 i
  | .str s => D.asS.map fun p => p.1 s
  | .tup vs => (keyOf vs).bind fun k => D.asT.map fun p => p.1 k
  | _ => none
noncomputable def idx (vs : List V) (k : Int) : Option V := if 0 ≤ k then vs[k.toNat]? else if -(vs.length : Int) ≤ k then vs[(k + vs.length).toNat]? else none
noncomputable def getO (o : O) (k : V) : Option V := match o with
  | .list vs => k.asI.bind (idx vs)
  | .dict D => (D.get k).join
  | _ => none
noncomputable def getI (H : Hp) (o k : V) : Option V := match o with
  | .tup vs => k.asI.bind fun k => if sm (-1) 1000 k = true then vs[k.toNat]? else none
  | .ref r => H[r]?.bind fun o => getO o k
  | _ => none
namespace E
@[simp] noncomputable def item (o i : Ex) : Ex := fun m H => (o m H).bind fun p => (i m p.2).bind fun q => (getI q.2 p.1 q.1).map fun X => (X, q.2)
end E
section
variable {C : Cx} {μ : List Sl} {A : Around} {s : Shared} {H : Hp} {k : Nat} {nm : List (Str × NameKind)}
theorem Cx.Ok.big (G : C.Ok) : 4 ≤ C.h0.objs.size := G.g.lt
theorem notMods (G : C.Ok) (R : C.HR μ s.heap H) {a : Addr} (m : madr μ a) : (a == sysModules) = false := by
  have h1 := R.low a m
  have h2 := G.big
  rw [beq_eq_false_iff_ne]
  intro e
  subst e
  exact absurd (Nat.le_trans h2 h1) (by decide)
theorem isInt_is (i : Int) (t : Tok) : (intKind C.prog C.w).is i (.int i t) = true := by simp [intKind, Value.isInt]
theorem isStr_is (x : String) (t : Tok) : (PySem.strKind C.prog C.w).is (Str.ofString x) (.str (Str.ofString x) t) = true := by simp [PySem.strKind, Value.isStrOf]
theorem itemsAre {h : Heap} : ∀ {vs : List V} {xs : List Value}, allInts vs = true → C.VRs μ h vs xs → ItemsAre (intKind C.prog C.w) (intsOf vs) xs
  | _, _, _, .nil => .nil
  | _, _, hv, .cons a r => by
    cases a <;> first | (simp [allInts] at hv; done) | skip
    rename_i i t
    simp only [allInts] at hv
    exact .cons (isInt_is i t) (itemsAre hv r)
theorem tupKey {h : Heap} {a : Addr} {vs : List V} {xs : List Value} (hv : allInts vs = true) (e : h.get? a = some (tupObj xs)) (r : C.VRs μ h vs xs) : (tupleKind (intKind C.prog C.w)).is h (intsOf vs) a :=
  ⟨_, _, _, e, rfl, rfl, by simpa using itemsAre hv r⟩
theorem if_of {α : Type} {c : Prop} [Decidable c] {t z : α} (h : (if c then some t else none) = some z) : c ∧ t = z := by
  by_cases hc : c
  · rw [if_pos hc] at h; exact ⟨hc, Option.some.inj h⟩
  · rw [if_neg hc] at h; cases h
theorem dictOf_new_I {h : Heap} {a : Addr} {n : Nat} (e : h.get? a = some (dictObj [] n)) : h.DictOf (intKind C.prog C.w) a [] := ⟨_, _, _, e, ⟨rfl, rfl, rfl⟩, rfl, (fun _ q => nomatch q), .nil, List.nodup_nil⟩
theorem dictOf_new_S {h : Heap} {a : Addr} {n : Nat} (e : h.get? a = some (dictObj [] n)) : h.DictOf (PySem.strKind C.prog C.w) a [] := ⟨_, _, _, e, ⟨rfl, rfl, rfl⟩, rfl, (fun _ q => nomatch q), .nil, List.nodup_nil⟩
theorem emp_T {h : Heap} {a : Addr} {n : Nat} (e : h.get? a = some (dictObj [] n)) : h.DictOfH (tupleKind (intKind C.prog C.w)) a [] :=
  ⟨_, _, _, e, ⟨rfl, rfl, rfl⟩, rfl, rfl, (fun _ q => nomatch q), List.nodup_nil⟩
/-- a table, by the kind of its keys -/
inductive DRI (C : Cx) (μ : List Sl) (h : Heap) (a : Addr) (p : (Int → Option V) × Nat) : Prop
  | mk (kvs : List (Int × Value)) (m : h.DictOf (intKind C.prog C.w) a kvs) (l : kvs.length ≤ p.2) (q : ∀ i, OptR C.h0 μ h (p.1 i) (valueAt kvs i)) (z : p.2 ≤ Mine.big) : DRI C μ h a p
inductive DRS (C : Cx) (μ : List Sl) (h : Heap) (a : Addr) (p : (String → Option V) × Nat) : Prop
  | mk (kvs : List (Str × Value)) (m : h.DictOf (PySem.strKind C.prog C.w) a kvs) (l : kvs.length ≤ p.2) (q : ∀ i, OptR C.h0 μ h (p.1 i) (valueAt kvs (Str.ofString i))) (z : p.2 ≤ Mine.big) : DRS C μ h a p
inductive DRT (C : Cx) (μ : List Sl) (h : Heap) (a : Addr) (p : (List Int → Option V) × Nat) : Prop
  | mk (xs : List (List Int × Addr × Value)) (m : h.DictOfH (tupleKind (intKind C.prog C.w)) a xs) (l : xs.length ≤ p.2) (t : ∀ x ∈ xs, ∃ vs, h.get? x.2.1 = some (tupObj vs)) (q : ∀ i, OptR C.h0 μ h (p.1 i) ((atKey xs i).map (·.2))) (z : p.2 ≤ Mine.big) : DRT C μ h a p
section
variable {h : Heap} {a : Addr} {D : Dct}
theorem dr_I {p : (Int → Option V) × Nat} (dr : DR C.prog C.w C.h0 μ h a D) (e : D.asI = some p) : DRI C μ h a p := by
  cases dr with
  | emp e0 => cases e; exact ⟨[], dictOf_new_I e0, Nat.le_refl _, fun _ => trivial, Nat.zero_le _⟩
  | I m l q z => cases e; exact ⟨_, m, l, q, z⟩
  | S => cases e
  | T => cases e
theorem dr_S {p : (String → Option V) × Nat} (dr : DR C.prog C.w C.h0 μ h a D) (e : D.asS = some p) : DRS C μ h a p := by
  cases dr with
  | emp e0 => cases e; exact ⟨[], dictOf_new_S e0, Nat.le_refl _, fun _ => trivial, Nat.zero_le _⟩
  | S m l q z => cases e; exact ⟨_, m, l, q, z⟩
  | I => cases e
  | T => cases e
theorem dr_T {p : (List Int → Option V) × Nat} (dr : DR C.prog C.w C.h0 μ h a D) (e : D.asT = some p) : DRT C μ h a p := by
  cases dr with
  | emp e0 => cases e; exact ⟨[], emp_T e0, Nat.le_refl _, (fun _ h => nomatch h), fun _ => trivial, Nat.zero_le _⟩
  | T m l t q z => cases e; exact ⟨_, m, l, t, q, z⟩
  | I => cases e
  | S => cases e
/-- a key that is a tuple of ints -/
inductive KeyT (C : Cx) (h : Heap) (k : List Int) (key : Value) : Prop
  | mk (b : Addr) (ys : List Value) (e : key = .ref b) (g : h.get? b = some (tupObj ys)) (hk : (tupleKind (intKind C.prog C.w)).is h k b) : KeyT C h k key
theorem key_T {vs : List V} {k : List Int} {key : Value} (hk : C.VR μ h (.tup vs) key) (e : keyOf vs = some k) : KeyT C h k key := by
  obtain ⟨hv, rfl⟩ := if_of e
  cases tup_inv hk with | mk b ys e g r => exact ⟨b, ys, e, g, tupKey hv g r⟩
/-- what a table answers to a key -/
inductive Ask (C : Cx) (h : Heap) (a : Addr) (key : Value) (g : Option Value) : Prop
  | I (i : Int) (f : Int → Option Value) : (intKind C.prog C.w).is i key = true → h.MapOf (intKind C.prog C.w) a f → f i = g → Ask C h a key g
  | S (i : Str) (f : Str → Option Value) : (PySem.strKind C.prog C.w).is i key = true → h.MapOf (PySem.strKind C.prog C.w) a f → f i = g → Ask C h a key g
  | T (b : Addr) (i : List Int) (xs : List (List Int × Addr × Value)) : key = .ref b → (tupleKind (intKind C.prog C.w)).is h i b → h.DictOfH (tupleKind (intKind C.prog C.w)) a xs → (atKey xs i).map (·.2) = g → Ask C h a key g
theorem dict_ask {K : V} {key : Value} {r : Option V} (dr : DR C.prog C.w C.h0 μ h a D) (hk : C.VR μ h K key) (e : D.get K = some r) : ∃ g, OptR C.h0 μ h r g ∧ Ask C h a key g := by
  cases K with
  | int i =>
    obtain ⟨p, e1, rfl⟩ := Option.map_eq_some_iff.mp e
    obtain ⟨t, rfl⟩ := int_inv hk
    cases dr_I dr e1 with | mk kvs m l q z => exact ⟨_, q i, .I _ _ (isInt_is _ _) m.mapOf rfl⟩
  | str i =>
    obtain ⟨p, e1, rfl⟩ := Option.map_eq_some_iff.mp e
    obtain ⟨t, rfl⟩ := str_inv hk
    cases dr_S dr e1 with | mk kvs m l q z => exact ⟨_, q i, .S _ _ (isStr_is _ _) m.mapOf rfl⟩
  | tup vs =>
    obtain ⟨k, e1, e⟩ := Option.bind_eq_some_iff.mp e
    obtain ⟨p, e2, rfl⟩ := Option.map_eq_some_iff.mp e
    cases key_T hk e1 with | mk b ys eb g hb => ?_
    cases dr_T dr e2 with | mk xs m l t q z => exact ⟨_, q k, .T b k xs eb hb m rfl⟩
  | _ => cases e
end
/-- a table of the heap -/
inductive VDct (C : Cx) (μ : List Sl) (h : Heap) (i : Nat) (D : Dct) (u : Value) : Prop
  | mk (sl : Sl) (m : μ[i]? = some sl) (e : u = .ref sl.a) (d : DR C.prog C.w C.h0 μ h sl.a D) (hd : sl.d = sl.a) : VDct C μ h i D u
theorem dct_inv {h : Heap} (R : C.HR μ h H) {i : Nat} {D : Dct} {u : Value} (g : H[i]? = some (.dict D)) (r : C.VR μ h (.ref i) u) : VDct C μ h i D u := by
  obtain ⟨sl, e, rfl⟩ := ref_inv r
  cases R.objs i sl _ e g with | dict d hd => exact ⟨sl, e, rfl, d, hd⟩
theorem seq_ix {j n : Nat} (h : j < n) : seqIndex? (j : Int) n = some j := by
  unfold seqIndex?
  simp only [show ¬ (j : Int) < 0 by omega, if_false]
  rw [if_pos (by simp only [Bool.and_eq_true, decide_eq_true_eq]; omega)]
  rfl
theorem big_64 {n : Nat} (h : n ≤ Mine.big) : n < 2 ^ 62 := Nat.lt_of_le_of_lt h (by decide)
theorem subs_false (slice : Expr) (o i : Value) : ∃ ops, subscripted slice false o i = operate ops (getItem o i) := by
  unfold subscripted
  split
  · exact ⟨_, rfl⟩
  · rename_i h; cases h
  · exact ⟨_, rfl⟩
theorem getI_sim (G : C.Ok) {value slice : Expr} {o i X : V} {ov iv : Value} (r : Room A k) (R : C.HR μ s.heap H) (ho : C.VR μ s.heap o ov) (hi : C.VR μ s.heap i iv) (h : getI H o i = some X) {Q : Value → Shared → Prop}
    (q : ∀ v tk, C.VR μ s.heap X v → Q v { s with toks := tk }) : C.wp A (subscriptTail value slice ov iv) Q s := by
  have hu := r.u
  obtain ⟨ops, hs⟩ := subs_false slice ov iv
  cases o with
  | tup vs =>
    obtain ⟨kk, ei, h⟩ := Option.bind_eq_some_iff.mp h
    have hsm : sm (-1) 1000 kk = true := by
      by_cases c : sm (-1) 1000 kk = true
      · exact c
      · rw [if_neg c] at h; cases h
    rw [if_pos hsm] at h
    rw [sm_iff] at hsm
    have h0 : 0 ≤ kk := by omega
    obtain ⟨j, rfl⟩ := Int.eq_ofNat_of_zero_le h0
    cases tup_inv ho with | mk a xs e e1 r1 => ?_
    subst e
    obtain ⟨t, rfl⟩ := int_inv (V.asI_some ei ▸ hi)
    obtain ⟨v, e2, r2⟩ := r1.get h
    have hlt := (List.getElem?_eq_some_iff.mp e2).1
    exact tail_any (IsTup.of e1).typeIs slot_tuple_getitem.lookup (getItem_tuple (IsTup.of e1) (by omega) (by omega) (j := j) (by rw [List.size_toArray]; exact seq_ix hlt) (by rw [List.getElem?_toArray]; exact e2) (q v s.toks r2)) hs
  | ref rr =>
    obtain ⟨ob, e0, h⟩ := Option.bind_eq_some_iff.mp h
    cases ob with
    | list vs =>
      obtain ⟨kk, ei, h⟩ := Option.bind_eq_some_iff.mp h
      cases lst_inv R e0 ho with | mk sl xs n m e a1 d r1 z => ?_
      subst e
      obtain ⟨t, rfl⟩ := int_inv (V.asI_some ei ▸ hi)
      have hlen := r1.length
      have z := big_64 z
      unfold idx at h
      by_cases h0 : 0 ≤ kk
      · rw [if_pos h0] at h
        obtain ⟨v, e2, r2⟩ := r1.get h
        have hlt := (List.getElem?_eq_some_iff.mp e2).1
        exact tail_any (IsList.of a1).typeIs slot_list_getitem.lookup (wpAny_getItem_list (IsList.of a1) h0 (by omega) (by rw [List.getElem?_toArray]; exact e2) (q v s.toks r2)) hs
      · rw [if_neg h0] at h
        by_cases h1 : -(vs.length : Int) ≤ kk
        · rw [if_pos h1] at h
          obtain ⟨v, e2, r2⟩ := r1.get h
          exact tail_any (IsList.of a1).typeIs slot_list_getitem.lookup (wpAny_getItem_list_neg (IsList.of a1) (by omega) (by rw [List.size_toArray, hlen]; exact h1) (by omega) (x := v) (by rw [List.size_toArray, hlen, List.getElem?_toArray]; exact e2) (q v s.toks r2)) hs
        · rw [if_neg h1] at h; cases h
    | dict D =>
      cases dct_inv R e0 ho with | mk sl m e dr _ => ?_
      subst e
      have hD : D.get i = some (some X) := by
        replace h : (D.get i).join = some X := h
        cases hd : D.get i with
        | none => rw [hd] at h; cases h
        | some y => rw [hd] at h; exact congrArg some h
      obtain ⟨g, og, alt⟩ := dict_ask dr hi hD
      cases g with
      | none => exact og.elim
      | some v =>
        cases alt with
        | I j f hk m e => exact tail_any m.typeIs slot_dict_getitem.lookup (wpAny_getItem_of hk m e (q v _ og)) hs
        | S j f hk m e => exact tail_any m.typeIs slot_dict_getitem.lookup (wpAny_getItem_of hk m e (q v _ og)) hs
        | T b j xs ek hk m e =>
          obtain ⟨p, hp, rfl⟩ := Option.map_eq_some_iff.mp e
          subst ek
          exact tail_any m.typeIs slot_dict_getitem.lookup (wpAny_getItem_heap (tupleKind_room_in1 (by omega)) hk m hp (q _ _ og)) hs
    | inst C fs => cases h
  | _ => cases h
/-- it says z -/
noncomputable abbrev Cx.Says (C : Cx) (μ : List Sl) (s : Shared) (z : V × Hp) (r : Value) (s' : Shared) : Prop := ∃ μ', C.Stp μ noW s μ' s' z.2 ∧ C.VR μ' s'.heap z.1 r
/-- two parts, one after the other -/
theorem SimE.pair {ea eb : Expr} {a b : Ex} (ha : SimE C k nm ea a) (hb : SimE C k nm eb b) {env : Env} {m : Loc} (r : Room A k) (en : EnvOk env) (hn : env.scope.names = nm) (F : FR C env μ s.heap m) (R : C.HR μ s.heap H) {p q : V × Hp} (hp : a m H = some p) (hq : b m p.2 = some q) {Q : Value → Value → Shared → Prop}
    (h : ∀ v v2 s2 μ2, C.Stp μ noW s μ2 s2 q.2 → C.VR μ2 s2.heap p.1 v → C.VR μ2 s2.heap q.1 v2 → Q v v2 s2) : C.wp A (eval ea env) (fun v s1 => C.wp A (eval eb env) (fun v2 s2 => Q v v2 s2) s1) s :=
  wp_mono (ha.r A env s μ H m r en hn F R _ _ hp) fun v s1 z => let ⟨μ1, S1, r1⟩ := z; wp_mono (hb.r A env s1 μ1 _ m r en hn (F.stp R S1) S1.hr _ _ hq) fun v2 s2 z => let ⟨μ2, S2, r2⟩ := z; h v v2 s2 μ2 (S1.trans S2) (r1.mono (S2.tup0 S1.hr) S2.pre) r2
theorem SimE.item (G : C.Ok) {eo ei : Expr} {pos : Pos} {o i : Ex} (ho : SimE C k nm eo o) (hi : SimE C k nm ei i) : SimE C k nm (.Subscript eo ei pos) (E.item o i) := by
  refine ⟨?_⟩
  intro A env s μ H m r e hn F R X H' hf
  obtain ⟨p, hp, hf⟩ := Option.bind_eq_some_iff.mp hf
  obtain ⟨q, hq, hf⟩ := Option.bind_eq_some_iff.mp hf
  obtain ⟨Y, hy, hf⟩ := Option.map_eq_some_iff.mp hf
  cases hf
  exact Subscript_ (ho.pair hi r e hn F R hp hq fun v v2 s2 μ2 S r1 r2 => getI_sim G r S.hr r1 r2 hy fun v3 tk r3 => ⟨μ2, S.trans (.toks S.hr _), r3⟩)
end
/-- x in y -/
noncomputable def inO (x : V) (o : O) : Option Bool := match o with
  | .list vs => if flat x = true ∧ flatsN 8 vs = true then some (dec (x ∈ vs)) else none
  | .dict D => (D.get x).map (·.isSome)
  | _ => none
noncomputable def inV (H : Hp) (x y : V) : Option Bool := match y with
  | .tup vs => if flat x = true ∧ flatsN 7 vs = true then some (dec (x ∈ vs)) else none
  | .ref j => H[j]?.bind (inO x)
  | _ => none
noncomputable def cmpV (op : CmpOp) (H : Hp) (x y : V) : Option Bool :=
  match op with
  | .Eq => eqV H x y
  | .NotEq => (eqV H x y).map (!·)
  | .In => inV H x y
  | .NotIn => (inV H x y).map (!·)
  | .Lt => (int2 x y).map fun p => decide (p.1 < p.2)
  | .LtE => (int2 x y).map fun p => decide (p.1 ≤ p.2)
  | .Gt => (int2 x y).map fun p => decide (p.2 < p.1)
  | .GtE => (int2 x y).map fun p => decide (p.2 ≤ p.1)
  | _ => none
section
variable {C : Cx} {μ : List Sl} {A : Around} {s : Shared} {H : Hp} {k : Nat} {nm : List (Str × NameKind)}
theorem any_mem {n m : Nat} {x : V} (hx : flatN n x = true) : ∀ {vs : List V}, flatsN m vs = true → (((toPys vs).any fun y => PyData.eqv y (toPy x)) = true ↔ x ∈ vs)
  | [], _ => iff_no rfl (List.not_mem_nil)
  | v :: vs, h => by
    have h2 := Bool.and_eq_true_iff.mp h
    exact (Bool.or_eq_true_iff.trans (or_congr ((eqv_flat h2.1 hx).trans eq_comm) (any_mem hx h2.2))).trans List.mem_cons.symm
theorem depth_le {n : Nat} {x : V} {vs : List V} (hn : n ≤ 8) (hs : flatsN n vs = true) (hx : flat x = true) : min (PyData.depthAll (toPys vs)) (toPy x).depth ≤ 8 := Nat.le_trans (Nat.min_le_right _ _) (lay_flat _ _ hx).2
theorem inV_sim (G : C.Ok) {x y : V} {v u : Value} {b : Bool} (r : Room A k) (R : C.HR μ s.heap H) (hx : C.VR μ s.heap x v) (hy : C.VR μ s.heap y u) (h : inV H x y = some b) {Q : Value → Shared → Prop} :
    ((∀ tk, Q (.bool b) { s with toks := tk }) → C.wp A (compareOp .In v u) Q s) ∧ ((∀ tk, Q (.bool (!b)) { s with toks := tk }) → C.wp A (compareOp .NotIn v u) Q s) := by
  have hu := r.u
  cases y with
  | tup vs =>
    obtain ⟨hf, rfl⟩ := if_of h
    cases tup_inv hy with | mk a xs e e1 r1 => ?_
    subst e
    obtain ⟨as, ra⟩ := VRs.reads r1 hf.2
    obtain ⟨bs, rb⟩ := VR.reads hx hf.1
    rw [← dec_iff (any_mem hf.1 hf.2)]
    have l := (lay_flats _ _ hf.2).1
    have ld := (lay_flat _ _ hf.1).1
    have hm := depth_le (by decide) hf.2 hf.1
    exact ⟨fun q => SeqAt.in_tuple_reads (reads_tuple_at e1 rfl rfl ra) rb l ld (by omega) (q s.toks), fun q => SeqAt.notIn_tuple_reads (reads_tuple_at e1 rfl rfl ra) rb l ld (by omega) (q s.toks)⟩
  | ref j =>
    obtain ⟨o, e0, h⟩ := Option.bind_eq_some_iff.mp h
    cases o with
    | list vs =>
      obtain ⟨hf, rfl⟩ := if_of h
      cases lst_inv R e0 hy with | mk sl xs n m e a1 d r1 z => ?_
      subst e
      obtain ⟨as, ra⟩ := VRs.reads r1 hf.2
      obtain ⟨bs, rb⟩ := VR.reads hx hf.1
      rw [← dec_iff (any_mem hf.1 hf.2)]
      have l := (lay_flats _ _ hf.2).1
      have ld := (lay_flat _ _ hf.1).1
      have hm := depth_le (by decide) hf.2 hf.1
      exact ⟨fun q => SeqAt.in_list_reads (reads_list_at a1 rfl rfl ra) rb l ld (by omega) (q s.toks), fun q => SeqAt.notIn_list_reads (reads_list_at a1 rfl rfl ra) rb l ld (by omega) (q s.toks)⟩
    | dict D =>
      cases dct_inv R e0 hy with | mk sl e1 e dr _ => ?_
      subst e
      have nm := notMods G R (a := sl.a) ⟨sl, List.mem_of_getElem? e1, .inl rfl⟩
      obtain ⟨y, hD, rfl⟩ := Option.map_eq_some_iff.mp h
      obtain ⟨g, og, alt⟩ := dict_ask dr hx hD
      have hb : y.isSome = g.isSome := by cases y <;> cases g <;> first | rfl | exact og.elim
      rw [hb]
      cases alt with
      | I j f hk m e => exact ⟨fun q => wpAny_in_of hk nm m (by rw [e]; exact q _), fun q => wpAny_notIn_of hk nm m (by rw [e]; exact q _)⟩
      | S j f hk m e => exact ⟨fun q => wpAny_in_of hk nm m (by rw [e]; exact q _), fun q => wpAny_notIn_of hk nm m (by rw [e]; exact q _)⟩
      | T b j xs ek hk m e =>
        subst ek
        have e' : (atKey xs j).isSome = g.isSome := by rw [← e, Option.isSome_map]
        exact ⟨fun q => wpAny_in_heap (tupleKind_room_in1 (by omega)) hk nm m (by rw [e']; exact q _), fun q => wpAny_notIn_heap (tupleKind_room_in1 (by omega)) hk nm m (by rw [e']; exact q _)⟩
    | inst C fs => cases h
  | _ => cases h
theorem cmp_sim (G : C.Ok) {op : CmpOp} {x y : V} {v u : Value} {b : Bool} (r : Room A k) (R : C.HR μ s.heap H) (hx : C.VR μ s.heap x v) (hy : C.VR μ s.heap y u) (h : cmpV op H x y = some b) {Q : Value → Shared → Prop}
    (q : ∀ tk, Q (.bool b) { s with toks := tk }) : C.wp A (compareOp op v u) Q s := by
  have cmp : ∀ {f : Int × Int → Bool}, (int2 x y).map f = some b → ∃ p : Int × Int, ∃ t1 t2, v = .int p.1 t1 ∧ u = .int p.2 t2 ∧ f p = b := fun h => by
    obtain ⟨p, e, h⟩ := Option.map_eq_some_iff.mp h
    obtain ⟨t1, t2, e1, e2⟩ := int2_inv hx hy e
    exact ⟨p, t1, t2, e1, e2, h⟩
  cases op with
  | Eq => exact (eqV_sim r R hx hy h).1 (q s.toks)
  | NotEq =>
    obtain ⟨c, hc, rfl⟩ := Option.map_eq_some_iff.mp h
    exact (eqV_sim r R hx hy hc).2 (q s.toks)
  | In => exact (inV_sim G r R hx hy h).1 q
  | NotIn =>
    obtain ⟨c, hc, rfl⟩ := Option.map_eq_some_iff.mp h
    exact (inV_sim G r R hx hy hc).2 q
  | Lt => obtain ⟨p, t1, t2, rfl, rfl, rfl⟩ := cmp h; exact wpAny_lt_int (q s.toks)
  | LtE => obtain ⟨p, t1, t2, rfl, rfl, rfl⟩ := cmp h; exact PyProof.Rows.le_int (q s.toks)
  | Gt => obtain ⟨p, t1, t2, rfl, rfl, rfl⟩ := cmp h; exact PyProof.Rows.gt_int (q s.toks)
  | GtE => obtain ⟨p, t1, t2, rfl, rfl, rfl⟩ := cmp h; exact PyProof.Rows.ge_int (q s.toks)
  | _ => cases h
end
namespace E
@[simp] noncomputable def cmp (op : CmpOp) (a b : Ex) : Ex := fun m H => (a m H).bind fun p => (b m p.2).bind fun q => (cmpV op q.2 p.1 q.1).map fun c => (.bool c, q.2)
@[simp] noncomputable def ife (t : Tx) (a b : Ex) : Ex := fun m H => (t m H).bind fun p => if p.1 = true then a m p.2 else b m p.2
end E
namespace T
@[simp] noncomputable def cmp (op : CmpOp) (a b : Ex) : Tx := fun m H => (a m H).bind fun p => (b m p.2).bind fun q => (cmpV op q.2 p.1 q.1).map fun c => (c, q.2)
@[simp] noncomputable def of (a : Ex) : Tx := fun m H => (a m H).bind fun p => p.1.asB.map fun b => (b, p.2)
@[simp] noncomputable def not (t : Tx) : Tx := fun m H => (t m H).map fun p => (!p.1, p.2)
@[simp] noncomputable def and : List Tx → Tx
  | [], _, H => some (true, H)
  | t :: ts, m, H => (t m H).bind fun p => if p.1 = true then and ts m p.2 else some (false, p.2)
@[simp] noncomputable def or : List Tx → Tx
  | [], _, H => some (false, H)
  | t :: ts, m, H => (t m H).bind fun p => if p.1 = true then some (true, p.2) else or ts m p.2
/-- a op1 b op2 c -/
@[simp] noncomputable def chain (op1 op2 : CmpOp) (a b c : Ex) : Tx := fun m H => (a m H).bind fun p => (b m p.2).bind fun q => (cmpV op1 q.2 p.1 q.1).bind fun t => if t = true then
  (c m q.2).bind fun r => (cmpV op2 r.2 q.1 r.1).map fun t => (t, r.2) else some (false, q.2)
/-- e != [] or e == [] -/
@[simp] noncomputable def nil (ne : Bool) (a : Ex) : Tx := fun m H => (a m H).bind fun p => (p.1.asL p.2).bind fun vs => if flatsN 8 vs = true then some (vs.isEmpty != ne, p.2) else none
end T
section
variable {C : Cx} {k : Nat} {nm : List (Str × NameKind)}
theorem SimE.cmp (G : C.Ok) {op : CmpOp} {ea eb : Expr} {pos : Pos} {a b : Ex} (ha : SimE C k nm ea a) (hb : SimE C k nm eb b) (hm : behindInMarks op eb = false) : SimE C k nm (.Compare ea [op] [eb] pos) (E.cmp op a b) := by
  refine ⟨?_⟩
  intro A env s μ H m r e hn F R X H' hf
  obtain ⟨p, hp, hf⟩ := Option.bind_eq_some_iff.mp hf
  obtain ⟨q, hq, hf⟩ := Option.bind_eq_some_iff.mp hf
  obtain ⟨Y, hy, hf⟩ := Option.map_eq_some_iff.mp hf
  cases hf
  exact wpAny_Compare1 (ha.pair hb r e hn F R hp hq fun v v2 s2 μ2 S r1 r2 => cmp_sim G r S.hr r1 r2 hy fun tk => ⟨μ2, S.trans (.toks S.hr _), .bool _⟩) hm
theorem SimT.cmp (G : C.Ok) {op : CmpOp} {ea eb : Expr} {pos : Pos} {a b : Ex} (ha : SimE C k nm ea a) (hb : SimE C k nm eb b) (hm : behindInMarks op eb = false) : SimT C k nm (.Compare ea [op] [eb] pos) (T.cmp op a b) := by
  refine ⟨?_⟩
  intro A env s μ H m r e hn F R X H' hf
  obtain ⟨p, hp, hf⟩ := Option.bind_eq_some_iff.mp hf
  obtain ⟨q, hq, hf⟩ := Option.bind_eq_some_iff.mp hf
  obtain ⟨Y, hy, hf⟩ := Option.map_eq_some_iff.mp hf
  cases hf
  exact wpAny_isTrue_Compare1 (ha.pair hb r e hn F R hp hq fun v v2 s2 μ2 S r1 r2 => cmp_sim G r S.hr r1 r2 hy fun tk => wpAny_truthy_bool ⟨rfl, μ2, S.trans (.toks S.hr _)⟩) hm
theorem SimT.nil {op : CmpOp} {ea : Expr} {pos lp : Pos} {a : Ex} {ne : Bool} (ha : SimE C k nm ea a) (ho : (op = .Eq ∧ ne = false) ∨ (op = .NotEq ∧ ne = true)) : SimT C k nm (.Compare ea [op] [.List [] lp] pos) (T.nil ne a) := by
  refine ⟨?_⟩
  intro A env s μ H m r e hn F R X H' hf
  obtain ⟨p, hp, hf⟩ := Option.bind_eq_some_iff.mp hf
  obtain ⟨vs, hv, hf⟩ := Option.bind_eq_some_iff.mp hf
  obtain ⟨hfl, hf⟩ := if_of hf
  cases hf
  obtain ⟨i, hi, e0⟩ := V.asL_some hv
  refine wpAny_isTrue_Compare1 (wp_mono (ha.r A env s μ H m r e hn F R _ _ hp) fun v s1 z => ?_) (by rcases ho with ⟨rfl, _⟩ | ⟨rfl, _⟩ <;> rfl)
  obtain ⟨μ1, S1, r1⟩ := z
  cases lst_inv S1.hr e0 (hi ▸ r1) with | mk sl xs n _ ev a1 _ r2 z => ?_
  subst ev
  have k1 : ∀ b o, s1.heap.get? b = some o → (s1.heap.push (listOf ([] : List Value).toArray 0)).get? b = some o := fun b o q => Heap.get?_push_of_some _ q
  refine List_ (spliced_nil (wpAny_newObj_type ?_ (Nat.zero_le _)))
  obtain ⟨as, ra⟩ := VRs.reads (C := C) (r2.mono (fun a vs q => k1 _ _ q) (Pre.refl _)) hfl
  have hu := r.u
  have e9 : (PyData.eqv (.list (toPys vs)) (.list [])) = vs.isEmpty := by cases vs <;> simp [toPys, PyData.eqv, PyData.eqvAll]
  have G1 : ∀ tk, C.Stp μ noW s μ1 { s1 with heap := s1.heap.push (listOf ([] : List Value).toArray 0), toks := tk } p.2 := fun tk => S1.trans (.grow S1.hr k1 (by rw [Heap.size_push]; exact Nat.le_succ _) _)
  rcases ho with ⟨rfl, rfl⟩ | ⟨rfl, rfl⟩
  · refine eq_dataH (s := { s1 with heap := s1.heap.push (listOf ([] : List Value).toArray 0) }) (reads_list_at (k1 _ _ a1) rfl rfl ra) (reads_list_at (Heap.get?_push_size _ rfl) rfl rfl ReadsAll.nil) (shaped_list (by omega) hfl) rfl (by omega) ?_
    rw [e9]
    exact wpAny_truthy_bool ⟨by cases vs <;> rfl, μ1, G1 _⟩
  · refine ne_dataH (s := { s1 with heap := s1.heap.push (listOf ([] : List Value).toArray 0) }) (reads_list_at (k1 _ _ a1) rfl rfl ra) (reads_list_at (Heap.get?_push_size _ rfl) rfl rfl ReadsAll.nil) (shaped_list (by omega) hfl) rfl (by omega) ?_
    rw [e9]
    exact wpAny_truthy_bool ⟨by cases vs <;> rfl, μ1, G1 _⟩
theorem SimT.not {e : Expr} {pos : Pos} {t : Tx} (h : SimT C k nm e t) : SimT C k nm (.UnaryOp .Not e pos) (T.not t) := by
  refine ⟨?_⟩
  intro A env s μ H m r e hn F R X H' hf
  unfold T.not at hf
  obtain ⟨p, hp, hf⟩ := Option.map_eq_some_iff.mp hf
  cases hf
  exact isTrue_not (wp_mono (h.r A env s μ H m r e hn F R _ _ hp) fun c s1 z => ⟨by rw [z.1], z.2⟩)
inductive SimTs (C : Cx) (k : Nat) (nm : List (Str × NameKind)) : List Expr → List Tx → Prop
  | nil : SimTs C k nm [] []
  | cons {e : Expr} {f : Tx} {es : List Expr} {fs : List Tx} : SimT C k nm e f → SimTs C k nm es fs → SimTs C k nm (e :: es) (f :: fs)
theorem SimT.and {es : List Expr} {pos : Pos} {ts : List Tx} (h : SimTs C k nm es ts) : SimT C k nm (.BoolOp .And es pos) (T.and ts) := by
  induction h with
  | nil =>
    refine ⟨?_⟩
    intro A env s μ H m r e hn F R X H' hf
    cases hf
    exact isTrue_and_nil ⟨rfl, μ, .refl R⟩
  | @cons ex t es ts h1 _ ih =>
    refine ⟨?_⟩
    intro A env s μ H m r e hn F R X H' hf
    unfold T.and at hf
    obtain ⟨p, hp, hf⟩ := Option.bind_eq_some_iff.mp hf
    refine isTrue_and (wp_mono (h1.r A env s μ H m r e hn F R _ _ hp) fun c s1 z => ?_)
    obtain ⟨rfl, μ1, S1⟩ := z
    split at hf
    · rename_i hc
      rw [if_pos hc]
      refine wp_mono (ih.r A env s1 μ1 _ m r e hn (F.stp R S1) S1.hr _ _ hf) fun c2 s2 z => ?_
      obtain ⟨rfl, μ2, S2⟩ := z
      exact ⟨rfl, μ2, S1.trans S2⟩
    · rename_i hc
      cases hf
      rw [if_neg hc]
      exact ⟨rfl, μ1, S1⟩
theorem SimT.or {es : List Expr} {pos : Pos} {ts : List Tx} (h : SimTs C k nm es ts) : SimT C k nm (.BoolOp .Or es pos) (T.or ts) := by
  induction h with
  | nil =>
    refine ⟨?_⟩
    intro A env s μ H m r e hn F R X H' hf
    cases hf
    exact isTrue_or_nil ⟨rfl, μ, .refl R⟩
  | @cons ex t es ts h1 _ ih =>
    refine ⟨?_⟩
    intro A env s μ H m r e hn F R X H' hf
    unfold T.or at hf
    obtain ⟨p, hp, hf⟩ := Option.bind_eq_some_iff.mp hf
    refine isTrue_or (wp_mono (h1.r A env s μ H m r e hn F R _ _ hp) fun c s1 z => ?_)
    obtain ⟨rfl, μ1, S1⟩ := z
    split at hf
    · rename_i hc
      cases hf
      rw [if_pos hc]
      exact ⟨rfl, μ1, S1⟩
    · rename_i hc
      rw [if_neg hc]
      refine wp_mono (ih.r A env s1 μ1 _ m r e hn (F.stp R S1) S1.hr _ _ hf) fun c2 s2 z => ?_
      obtain ⟨rfl, μ2, S2⟩ := z
      exact ⟨rfl, μ2, S1.trans S2⟩
theorem SimT.of {e : Expr} {a : Ex} (h : SimE C k nm e a) (he : ∀ env whole, isTrue e env whole = (do let v ← whole; standAt e.pos; holding [v] (truthy v))) : SimT C k nm e (T.of a) := by
  refine ⟨?_⟩
  intro A env s μ H m r en hn F R X H' hf
  obtain ⟨p, hp, hf⟩ := Option.bind_eq_some_iff.mp hf
  obtain ⟨b, hb, hf⟩ := Option.map_eq_some_iff.mp hf
  cases hf
  refine isTrue_plain (wp_mono (h.r A env s μ H m r en hn F R _ _ hp) fun v s1 z => ?_) (he _ _)
  obtain ⟨μ1, S1, r1⟩ := z
  cases bool_inv (V.asB_some hb ▸ r1)
  exact wpAny_truthy_bool ⟨rfl, μ1, S1⟩
theorem SimE.ife {et ea eb : Expr} {pos : Pos} {t : Tx} {a b : Ex} (ht : SimT C k nm et t) (ha : SimE C k nm ea a) (hb : SimE C k nm eb b) : SimE C k nm (.IfExp et ea eb pos) (E.ife t a b) := by
  refine ⟨?_⟩
  intro A env s μ H m r en hn F R X H' hf
  unfold E.ife at hf
  obtain ⟨p, hp, hf⟩ := Option.bind_eq_some_iff.mp hf
  refine IfExp_ (wp_mono (ht.r A env s μ H m r en hn F R _ _ hp) fun c s1 z => ?_)
  obtain ⟨rfl, μ1, S1⟩ := z
  split at hf
  · rename_i hc
    rw [if_pos hc]
    refine wp_mono (ha.r A env s1 μ1 _ m r en hn (F.stp R S1) S1.hr _ _ hf) fun c2 s2 z => ?_
    obtain ⟨μ2, S2, r2⟩ := z
    exact ⟨μ2, S1.trans S2, r2⟩
  · rename_i hc
    rw [if_neg hc]
    refine wp_mono (hb.r A env s1 μ1 _ m r en hn (F.stp R S1) S1.hr _ _ hf) fun c2 s2 z => ?_
    obtain ⟨μ2, S2, r2⟩ := z
    exact ⟨μ2, S1.trans S2, r2⟩
theorem SimT.chain (G : C.Ok) {op1 op2 : CmpOp} {ea eb ec : Expr} {pos : Pos} {a b c : Ex} (ha : SimE C k nm ea a) (hb : SimE C k nm eb b) (hc : SimE C k nm ec c) (hm : lastMarks [op1, op2] [eb, ec] = false) :
    SimT C k nm (.Compare ea [op1, op2] [eb, ec] pos) (T.chain op1 op2 a b c) := by
  refine ⟨?_⟩
  intro A env s μ H m r en hn F R X H' hf
  unfold T.chain at hf
  obtain ⟨p, hp, hf⟩ := Option.bind_eq_some_iff.mp hf
  obtain ⟨q, hq, hf⟩ := Option.bind_eq_some_iff.mp hf
  obtain ⟨t, ht, hf⟩ := Option.bind_eq_some_iff.mp hf
  refine isTrue_chain (wp_mono (ha.r A env s μ H m r en hn F R _ _ hp) fun v s1 z => ?_) hm
  obtain ⟨μ1, S1, r1⟩ := z
  have F1 := F.stp R S1
  refine test_link (wp_mono (hb.r A env s1 μ1 _ m r en hn F1 S1.hr _ _ hq) fun v2 s2 z => ?_)
  obtain ⟨μ2, S2, r2⟩ := z
  have F2 := F1.stp S1.hr S2
  refine cmp_sim G r S2.hr (r1.mono (S2.tup0 S1.hr) S2.pre) r2 ht fun tk => ?_
  have T2 : C.Stp μ2 noW s2 μ2 { s2 with toks := tk } q.2 := .toks S2.hr _
  refine wpAny_truthy_bool ?_
  split at hf
  · rename_i hc1
    rw [if_pos hc1]
    obtain ⟨p3, hp3, hf⟩ := Option.bind_eq_some_iff.mp hf
    obtain ⟨t3, ht3, hf⟩ := Option.map_eq_some_iff.mp hf
    cases hf
    refine test_last (wp_mono (hc.r A env _ μ2 _ m r en hn (F2.stp S2.hr T2) T2.hr _ _ hp3) fun v3 s3 z => ?_)
    obtain ⟨μ3, S3, r3⟩ := z
    refine cmp_sim G r S3.hr (r2.mono (S3.tup0 T2.hr) S3.pre) r3 ht3 fun tk => ?_
    exact wpAny_truthy_bool ⟨rfl, μ3, (((S1.trans S2).trans T2).trans S3).trans (.toks S3.hr _)⟩
  · rename_i hc1
    cases hf
    rw [if_neg hc1]
    exact ⟨rfl, μ2, (S1.trans S2).trans T2⟩
end
section
variable {C : Cx} {μ : List Sl} {A : Around} {s : Shared} {H : Hp} {k : Nat} {nm : List (Str × NameKind)}
theorem SimA.plain {es : List Expr} {fs : List Ex} (h : SimA C k nm es fs) (pos : Pos) (env : Env) : (backTo pos (starEach es env)).any (·.1) = false := by
  induction h with
  | nil => rfl
  | cons _ hs _ ih =>
    rw [starEach_cons hs]
    show (false || (backTo pos (starEach _ env)).any (·.1)) = false
    rw [ih]; rfl
theorem SimA.few {es : List Expr} {fs : List Ex} (h : SimA C k nm es fs) (pos : Pos) (env : Env) : (backTo pos (starEach es env)).all (fun x => !x.1) = true := by
  induction h with
  | nil => rfl
  | cons _ hs _ ih =>
    rw [starEach_cons hs]
    show (true && (backTo pos (starEach _ env)).all (fun x => !x.1)) = true
    rw [ih]; rfl
theorem SimA.args {es : List Expr} {fs : List Ex} (h : SimA C k nm es fs) {pos : Pos} {env : Env} {f : Value} {Q : Args → Shared → Prop} (q : C.wp A (spliced (backTo pos (starEach es env))) (fun vs s' => Q ⟨vs, []⟩ s') s) :
    C.wp A (evalArgs f true (backTo pos (starEach es env)) []) Q s := by
  cases h with
  | nil =>
    have q : C.wp A (spliced []) (fun vs s' => Q ⟨vs, []⟩ s') s := q
    show C.wp A (evalArgs f true [] []) Q s
    unfold evalArgs
    show wpAny _ A (spliced [] >>= _) _ _ s
    refine wpAny_bind (wp_mono q fun vs s1 h1 => wpAny_bind (wpAny_pure ?_))
    refine wpAny_holding ?_
    exact wpAny_bind (wpAny_pure (wpAny_bind (wpAny_pure (wpAny_pure h1))))
  | cons _ hs _ =>
    rw [starEach_cons hs] at q ⊢
    exact evalArgs_plain q
noncomputable def KeepOk (C : Cx) (f : Value) : Prop := ∀ h : Heap, (∀ b o, C.h0.get? b = some o → h.get? b = some o) → ∃ k, (k = Keeper.frame ∨ k = Keeper.machine ∨ k = Keeper.boundFrame) ∧ Looks (model C.prog C.w) h (keeperOf f) k
theorem KeepOk.builtin (i : String) : KeepOk C (.builtin i) := fun _ _ => ⟨.machine, .inr (.inl rfl), Looks.of_pure rfl⟩
theorem KeepOk.type (i : String) : KeepOk C (.type i) := fun _ _ => ⟨.machine, .inr (.inl rfl), Looks.of_pure rfl⟩
theorem KeepOk.inK (G : C.Ok) {f : Value} (hk : keepIn C.K f = true) : KeepOk C f := fun h b => keeps_K hk h (G.X.keeps b)
/-- a call with plain arguments -/
theorem callW {es : List Expr} {fs : List Ex} (h : SimA C k nm es fs) {f : Value} (hk : KeepOk C f) {first : List Value} {pos : Pos} {env : Env} {m : Loc} {Xs : List V} {H' : Hp} {Q : Value → Shared → Prop} (r : Room A k) (e : EnvOk env) (hn : env.scope.names = nm)
    (F : FR C env μ s.heap m) (R : C.HR μ s.heap H) (hf : E.evs fs m H = some (Xs, H'))
    (q : ∀ vs μ' s', C.Stp μ noW s μ' s' H' → C.VRs μ' s'.heap Xs vs → C.wp A (call f (first ++ vs) []) Q s') : C.wp A (callWith pos f first (backTo pos (starEach es env)) []) Q s := by
  refine callWith_of (P := fun h => ∀ b o, C.h0.get? b = some o → h.get? b = some o) (by rw [h.plain]; rfl) (fun h b => hk h b) (h.args (wp_mono (h.run pos A env s μ H m r e hn F R _ _ hf) fun vs s1 z => ?_))
  obtain ⟨μ1, S1, r1⟩ := z
  exact ⟨S1.hr.base, q vs μ1 s1 S1 r1⟩
/-- a built-in's name -/
noncomputable def GB (C : Cx) (x : String) (f : Value) : Prop := (C.mg (Str.ofString x) = none ∧ C.mb (Str.ofString x) = some f) ∨ C.mg (Str.ofString x) = some f
theorem name_GB (G : C.Ok) {x : String} {f : Value} {pos : Pos} {env : Env} {m : Loc} {Q : Value → Shared → Prop} (e : EnvOk env) (hn : env.scope.names = nm) (R : C.HR μ s.heap H) (hl : nm.lookup (Str.ofString x) = some .globalImplicit) (hg : GB C x f)
    (hd : (Str.ofString x == ("__debug__" : Str)) = false) (q : Q f s) : C.wp A (eval (.Name (Str.ofString x) pos) env) Q s := by
  have hk : env.kindOf (Str.ofString x) = some .globalImplicit := by rw [kindOf_nm hn, hl]
  refine Name_function_global e.kind hk ?_ hd
  rcases hg with ⟨h1, h2⟩ | h1
  · exact loadGlobal_builtin (env := env) (by rw [e.globals]; exact G.g.keeps R.base) h1 (by rw [e.builtins]; exact G.b.keeps R.base) h2 q
  · exact loadGlobal_global (env := env) (by rw [e.globals]; exact G.g.keeps R.base) h1 q
theorem eval_Call_Name {x : Str} {p pos : Pos} {es : List Expr} {env : Env} {Q : Value → Shared → Prop} (h : C.wp A (eval (.Name x p) env) (fun f s' => C.wp A (callWith pos f [] (backTo pos (starEach es env)) []) Q s') s) :
    C.wp A (eval (.Call (.Name x p) es [] pos) env) Q s := Call_Name rfl h
end
namespace E
@[simp] noncomputable def len (a : Ex) : Ex := fun m H => (a m H).bind fun p => (p.1.asW p.2).map fun vs => (.int vs.length, p.2)
@[simp] noncomputable def call (f : Fn) (fs : List Ex) : Ex := fun m H => (evs fs m H).bind fun p => f p.1 p.2
@[simp] noncomputable def new (c : Addr) (init : Fn) (fs : List Ex) : Ex := fun m H => (evs fs m H).bind fun p => (init (.ref p.2.length :: p.1) (p.2 ++ [.inst c []])).bind fun q => match q.1 with
  | .none => some (.ref p.2.length, q.2)
  | _ => none
/-- list(a) of a list or a tuple -/
@[simp] noncomputable def mklist (a : Ex) : Ex := fun m H => (a m H).bind fun p => (p.1.asW p.2).map fun vs => (.ref p.2.length, p.2 ++ [.list vs])
@[simp] noncomputable def mktup (a : Ex) : Ex := fun m H => (a m H).bind fun p => (p.1.asL p.2).map fun vs => (.tup vs, p.2)
noncomputable def rangeVs (a b : Int) : List V := (List.range (b - a).toNat).map fun (i : Nat) => V.int (a + i)
/-- list(range(a)) -/
@[simp] noncomputable def listRange (a : Ex) : Ex := fun m H => (a m H).bind fun p => p.1.asI.bind fun n => if sm (-1) 1000001 n = true then some (.ref p.2.length, p.2 ++ [.list (rangeVs 0 n)]) else none
end E
section
variable {C : Cx} {μ : List Sl} {A : Around} {s : Shared} {H : Hp} {k : Nat} {nm : List (Str × NameKind)}
theorem SimA.one {e : Expr} {f : Ex} (h : SimE C k nm e f) (hs : notStar e = true) : SimA C k nm [e] [f] := .cons h hs .nil
theorem evs_one {f : Ex} {m : Loc} {H H' : Hp} {X : V} (h : f m H = some (X, H')) : E.evs [f] m H = some ([X], H') := by simp [E.evs, h]
theorem big_line {n : Nat} (h : n ≤ big) : n ≤ sizeLine := by unfold big at h; rw [sizeLine_eq]; omega
theorem SimE.len (G : C.Ok) {e : Expr} {p pos : Pos} {a : Ex} (h : SimE C k nm e a) (hg : GB C "len" (.builtin "len")) (hs : notStar e = true) (hl : nm.lookup (Str.ofString "len") = some .globalImplicit) : SimE C k nm (.Call (.Name (Str.ofString "len") p) [e] [] pos) (E.len a) := by
  refine ⟨?_⟩
  intro A env s μ H m r en hn F R X H' hf
  obtain ⟨q, hq, hf⟩ := Option.bind_eq_some_iff.mp hf
  obtain ⟨ws, hw, hf⟩ := Option.map_eq_some_iff.mp hf
  cases hf
  refine eval_Call_Name (name_GB (m := m) G en hn R hl hg (by decide) (callW (SimA.one h hs) (.builtin _) r en hn F R (evs_one hq) fun vs μ1 s1 S1 r1 => ?_))
  cases r1 with | cons r1 r2 => ?_
  cases r2
  rcases V.asW_some hw with ⟨e, z⟩ | ⟨i, e, g⟩
  · cases tup_inv (e ▸ r1) with | mk a xs eu e1 r2 => ?_
    subst eu
    have hl := big_64 z
    exact len_tuple (IsTup.of e1) (by rw [List.size_toArray, r2.length]; omega) ⟨μ1, S1.trans (.toks S1.hr _), by rw [List.size_toArray, r2.length]; exact .int _ _⟩
  · cases lst_inv S1.hr g (e ▸ r1) with | mk sl xs n m eu a1 d r2 z => ?_
    subst eu
    have hl := big_64 z
    exact call_len_list (IsList.of a1) (by rw [List.size_toArray, r2.length]; omega) ⟨μ1, S1.trans (.toks S1.hr _), by rw [List.size_toArray, r2.length]; exact .int _ _⟩
theorem SimE.call (G : C.Ok) {x : String} {a : Addr} {es : List Expr} {fs : List Ex} {f : Fn} {p pos : Pos} {k' : Nat} (h : SimA C k nm es fs) (hf : SimFn C k' a f) (hg : GB C x (.ref a)) (hl : nm.lookup (Str.ofString x) = some .globalImplicit) (hd : (Str.ofString x == ("__debug__" : Str)) = false)
    (hk : keepIn C.K (.ref a) = true) (hk1 : Nat.ble k' k = true) : SimE C k nm (.Call (.Name (Str.ofString x) p) es [] pos) (E.call f fs) := by
  have hkk : k' ≤ k := Nat.le_of_ble_eq_true hk1
  refine ⟨?_⟩
  intro A env s μ H m r en hn F R X H' hf'
  unfold E.call at hf'
  obtain ⟨q, hq, hf'⟩ := Option.bind_eq_some_iff.mp hf'
  refine eval_Call_Name (name_GB (m := m) G en hn R hl hg hd (callW h (.inK G hk) r en hn F R hq fun vs μ1 s1 S1 r1 => ?_))
  refine wpAny_call (codeAny_mono (hf.r A s1 μ1 q.2 q.1 vs (r.mono hkk) S1.hr r1 X H' hf') fun rr s2 z => ?_)
  obtain ⟨μ2, v, rfl, S2, r2⟩ := z
  exact ⟨μ2, S1.trans S2, r2⟩
theorem Room.make {A : Around} {k : Nat} (r : Room A (k + 1)) (c : Addr) (vs : List Value) : Room (A.under (.builtin "type.__call__" ⟨.ref c :: vs, []⟩)) k := ⟨r.handled, by have := r.depth; show A.depth + 1 + _ ≤ _; omega, by
  have := r.units
  show A.units + _ + _ ≤ _
  have e : (Code.builtin "type.__call__" ⟨.ref c :: vs, []⟩).cUnits = 1 := rfl
  omega⟩
theorem SimE.new (G : C.Ok) {x : String} {c fI : Addr} {es : List Expr} {fs : List Ex} {f : Fn} {p pos : Pos} {k' : Nat} (h : SimA C k nm es fs) (hl : nm.lookup (Str.ofString x) = some .globalImplicit) (hd : (Str.ofString x == ("__debug__" : Str)) = false) (hg : GB C x (.ref c)) (hk : keepIn C.K (.ref c) = true)
    (hm : makesIn C.K c = true) (hi : findIn C.K (.ref c) "__init__" = some (some (.ref fI))) (ht : typeIn C.K (.ref fI) = some (.type "function"))
    (hf : SimFn C k' fI f) (hkk : k' + 1 ≤ k) : SimE C k nm (.Call (.Name (Str.ofString x) p) es [] pos) (E.new c f fs) := by
  refine ⟨?_⟩
  intro A env s μ H m r en hn F R X H' hf'
  unfold E.new at hf'
  obtain ⟨q, hq, hf'⟩ := Option.bind_eq_some_iff.mp hf'
  obtain ⟨q2, hq2, hf'⟩ := Option.bind_eq_some_iff.mp hf'
  split at hf'
  · rename_i hnone
    cases hf'
    refine eval_Call_Name (name_GB (m := m) G en hn R hl hg hd (callW h (.inK G hk) r en hn F R hq fun vs μ1 s1 S1 r1 => ?_))
    refine wpAny_call ?_
    obtain ⟨hh, g, d, t, os⟩ := s1
    have X1 := G.X.keeps S1.hr.base
    refine make_core (makes_of X1 hm) (looks_findIn X1 hi) (fun self => bind_fn X1 self ht) (.inl rfl) ?_
    have k1 : ∀ b o, hh.get? b = some o → ((hh.push emptyDict).push (instObj c hh.objs.size)).get? b = some o := fun b o e => Heap.get?_push_of_some _ (Heap.get?_push_of_some _ e)
    have g1 : ((hh.push emptyDict).push (instObj c hh.objs.size)).get? (hh.objs.size + 1) = some (instObj c hh.objs.size) := by
      have := Heap.get?_push_size (hh.push emptyDict) (o := instObj c hh.objs.size) rfl
      rwa [Heap.size_push] at this
    have g2 : ((hh.push emptyDict).push (instObj c hh.objs.size)).get? hh.objs.size = some emptyDict := Heap.get?_push_of_some _ (Heap.get?_push_size _ rfl)
    have S2 := Stp.push (W := noW) (s := ⟨hh, g, d, t, os⟩) (sl := ⟨hh.objs.size + 1, hh.objs.size⟩) (o := .inst c []) S1.hr k1 (by rw [Heap.size_push, Heap.size_push]; exact Nat.le_add_right _ 2) (Nat.le_succ _) (Nat.le_refl _)
      (.inst (ds := []) (n := 0) g1 g2 .nil List.nodup_nil (by simp)) t
    have hx : (μ1 ++ [⟨hh.objs.size + 1, hh.objs.size⟩])[q.2.length]? = some ⟨hh.objs.size + 1, hh.objs.size⟩ := by rw [← S1.hr.len]; simp
    refine codeAny_mono (hf.r _ _ (μ1 ++ [⟨hh.objs.size + 1, hh.objs.size⟩]) (q.2 ++ [.inst c []]) (.ref q.2.length :: q.1) (.ref (hh.objs.size + 1) :: vs) ((r.mono hkk).make c _) S2.hr (.cons (.ref hx) (r1.mono (fun a vs e => k1 _ _ e) (Pre.snoc _ _))) q2.1 q2.2 hq2) fun rr s2 z => ?_
    obtain ⟨μ2, v, rfl, S3, r3⟩ := z
    rw [hnone] at r3
    cases r3
    refine ⟨rfl, μ2, (S1.trans S2).trans S3, .ref (S3.pre _ _ hx)⟩
  · cases hf'
theorem SimE.mklist (G : C.Ok) {e : Expr} {p pos : Pos} {a : Ex} (h : SimE C k nm e a) (hs : notStar e = true) (hl : nm.lookup (Str.ofString "list") = some .globalImplicit) (hg : GB C "list" (.type "list")) : SimE C k nm (.Call (.Name (Str.ofString "list") p) [e] [] pos) (E.mklist a) := by
  refine ⟨?_⟩
  intro A env s μ H m r en hn F R X H' hf
  obtain ⟨q, hq, hf⟩ := Option.bind_eq_some_iff.mp hf
  refine eval_Call_Name (name_GB (m := m) G en hn R hl hg (by decide) (callW (SimA.one h hs) (.type _) r en hn F R (evs_one hq) fun vs μ1 s1 S1 r1 => ?_))
  cases r1 with | cons r1 r2 => ?_
  cases r2
  have fin : ∀ {Vs : List V} {vs : List Value} {h' : Heap} {c' : Nat}, C.VRs μ1 s1.heap Vs vs → Vs.length ≤ big → (∀ b o, s1.heap.get? b = some o → h'.get? b = some o) → h'.get? s1.heap.objs.size = some (listOf vs.toArray c') →
      ∃ μ', C.Stp μ noW s μ' { s1 with heap := h' } (q.2 ++ [.list Vs]) ∧ C.VR μ' h' (.ref q.2.length) (.ref s1.heap.objs.size) := by
    intro Vs vs h' c' r2 z k1 e1
    have hx : (μ1 ++ [⟨s1.heap.objs.size, s1.heap.objs.size⟩])[q.2.length]? = some ⟨s1.heap.objs.size, s1.heap.objs.size⟩ := by rw [← S1.hr.len]; simp
    have hlt := Heap.lt_size e1
    exact ⟨_, S1.trans (.push (sl := ⟨s1.heap.objs.size, s1.heap.objs.size⟩) S1.hr k1 (Nat.le_of_lt hlt) (Nat.le_refl _) (Nat.le_refl _) (.list e1 rfl (r2.mono (fun a vs e => k1 _ _ e) (Pre.snoc _ _)) z) s1.toks), .ref hx⟩
  obtain ⟨ws, hw, hf⟩ := Option.map_eq_some_iff.mp hf
  cases hf
  rcases V.asW_some hw with ⟨e, z⟩ | ⟨i, e, g⟩
  · cases tup_inv (e ▸ r1) with | mk a xs eu e1 r2 => ?_
    subst eu
    exact call_list_seq _ (.inr rfl) e1 rfl rfl (fun h' c' k1 e2 => fin r2 z k1 e2) (by rw [List.size_toArray, r2.length]; exact big_line z)
  · cases lst_inv S1.hr g (e ▸ r1) with | mk sl xs n m eu a1 d r2 z => ?_
    subst eu
    exact call_list_seq _ (.inl rfl) a1 rfl rfl (fun h' c' k1 e2 => fin r2 z k1 e2) (by rw [List.size_toArray, r2.length]; exact big_line z)
theorem SimE.mktup (G : C.Ok) {e : Expr} {p pos : Pos} {a : Ex} (h : SimE C k nm e a) (hs : notStar e = true) (hl : nm.lookup (Str.ofString "tuple") = some .globalImplicit) (hg : GB C "tuple" (.type "tuple")) : SimE C k nm (.Call (.Name (Str.ofString "tuple") p) [e] [] pos) (E.mktup a) := by
  refine ⟨?_⟩
  intro A env s μ H m r en hn F R X H' hf
  obtain ⟨q, hq, hf⟩ := Option.bind_eq_some_iff.mp hf
  obtain ⟨ws, hw, hf⟩ := Option.map_eq_some_iff.mp hf
  cases hf
  obtain ⟨i, e, g⟩ := V.asL_some hw
  refine eval_Call_Name (name_GB (m := m) G en hn R hl hg (by decide) (callW (SimA.one h hs) (.type _) r en hn F R (evs_one hq) fun vs μ1 s1 S1 r1 => ?_))
  cases r1 with | cons r1 r2 => ?_
  cases r2
  cases lst_inv S1.hr g (e ▸ r1) with | mk sl xs n m eu a1 d r2 z => ?_
  subst eu
  refine with_size (call_tuple_list (IsList.of a1) (fun h' k1 hz => ?_) (by rw [List.size_toArray, r2.length]; exact big_line z))
  have k2 : ∀ b o, s1.heap.get? b = some o → (h'.push (tupObj xs)).get? b = some o := fun b o e => Heap.get?_push_of_some _ (k1 b o e)
  exact ⟨μ1, S1.trans (.grow S1.hr k2 hz _), .tup (Heap.get?_push_size _ rfl) (r2.mono (fun a vs e => k2 _ _ e) (.refl _))⟩
end
section
variable {C : Cx} {μ : List Sl} {A : Around} {s : Shared} {H : Hp} {k : Nat} {nm : List (Str × NameKind)}
theorem listNew {W : Addr → Prop} {h' : Heap} {b : Addr} {vs : List Value} {Vs : List V} {n : Nat} (R : C.HR μ s.heap H) (k1 : ∀ b o, s.heap.get? b = some o → h'.get? b = some o) (hz : s.heap.objs.size ≤ h'.objs.size) (hb : s.heap.objs.size ≤ b)
    (e : h'.get? b = some (listOf vs.toArray n)) (r : C.VRs μ s.heap Vs vs) (z : Vs.length ≤ big) (tk : Nat) :
    ∃ μ', C.Stp μ W s μ' { s with heap := h', toks := tk } (H ++ [.list Vs]) ∧ C.VR μ' h' (.ref H.length) (.ref b) := by
  have hx : (μ ++ [⟨b, b⟩])[H.length]? = some ⟨b, b⟩ := by rw [← R.len]; simp
  exact ⟨_, .push (sl := ⟨b, b⟩) R k1 hz hb hb (.list e rfl (r.mono (fun a vs e => k1 _ _ e) (Pre.snoc _ _)) z) tk, .ref hx⟩
noncomputable def addV (H : Hp) (x y : V) : Option (V × Hp) := match x with
  | .int a => y.asI.map fun b => (.int (a + b), H)
  | .tup vs => y.asT.bind fun ws => if vs.length + ws.length ≤ big then some (.tup (vs ++ ws), H) else none
  | .ref i => ((V.ref i).asL H).bind fun vs => (y.asL H).bind fun ws => if vs.length + ws.length ≤ big then some (.ref H.length, H ++ [.list (vs ++ ws)]) else none
  | _ => none
noncomputable def binV (op : Operator) (H : Hp) (x y : V) : Option (V × Hp) :=
  match op with
  | .Add => addV H x y
  | .Sub => (int2 x y).map fun p => (.int (p.1 - p.2), H)
  | .Mod => (int2 x y).bind fun p => if p.2 ≠ 0 then some (.int (p.1.fmod p.2), H) else none
  | .FloorDiv => (int2 x y).bind fun p => if dec (p.2 ≠ 0 ∧ p.2.natAbs < 1073741824) = true then some (.int (p.1.fdiv p.2), H) else none
  | .Pow => (int2 x y).bind fun p => if dec (0 ≤ p.2 ∧ p.2 ≤ 1000 ∧ p.1.natAbs < 1000) = true then some (.int (p.1 ^ p.2.toNat), H) else none
  | _ => none
theorem addT_sim {vs ws : List V} {u v : Value} (R : C.HR μ s.heap H) (hx : VTup C μ s.heap vs u) (hy : VTup C μ s.heap ws v) (hb : vs.length + ws.length ≤ big) : C.wp A (binaryOp .Add u v) (C.Says μ s (.tup (vs ++ ws), H)) s := by
  cases hx with | mk a xs ea e1 r1 => ?_
  cases hy with | mk b ys eb e2 r2 => ?_
  subst ea eb
  by_cases hv : xs = []
  · subst hv
    cases r1
    exact concat_meets ⟨_, e1, rfl⟩ ⟨_, e2, rfl⟩ noFill_tuple_add seq_tuple_add PySem.F.slot_tuple_add PySem.F.entry_tuple_add (PySem.F.args_tuple_add_2 _ _) (tuple_addW0 a b ([] : List Value).toArray ys.toArray 0 0 none none #[] #[] rfl) ⟨e1, e2, μ, .refl R, .tup e2 r2⟩
  · have nv : xs.toArray ≠ #[] := fun h => hv (congrArg Array.toList h)
    by_cases hw : ys = []
    · subst hw
      cases r2
      rw [List.append_nil]
      exact concat_meets ⟨_, e1, rfl⟩ ⟨_, e2, rfl⟩ noFill_tuple_add seq_tuple_add PySem.F.slot_tuple_add PySem.F.entry_tuple_add (PySem.F.args_tuple_add_2 _ _) (tuple_addW1 a b xs.toArray ([] : List Value).toArray 0 0 none none #[] #[] (by simpa using hv) rfl) ⟨e1, e2, μ, .refl R, .tup e1 r1⟩
    · refine concat_meets ⟨_, e1, rfl⟩ ⟨_, e2, rfl⟩ noFill_tuple_add seq_tuple_add PySem.F.slot_tuple_add PySem.F.entry_tuple_add (PySem.F.args_tuple_add_2 _ _)
        (tuple_addW2 a b xs.toArray ys.toArray 0 0 none none #[] #[] (by simpa using hv) (by simpa using hw) (by rw [List.size_toArray, List.size_toArray, r1.length, r2.length]; exact big_line hb)) ⟨e1, e2, μ, .grow R (fun b o e => Heap.get?_push_of_some _ e) (by rw [Heap.size_push]; exact Nat.le_succ _) _, ?_⟩
      rw [List.append_toArray]
      exact .tup (vs := xs ++ ys) (Heap.get?_push_size _ rfl) ((r1.append r2).mono (fun a vs e => Heap.get?_push_of_some _ e) (.refl _))
theorem addL_sim {i j : Nat} {vs ws : List V} {u v : Value} (R : C.HR μ s.heap H) (hx : VLst C μ s.heap i vs u) (hy : VLst C μ s.heap j ws v) (hb : vs.length + ws.length ≤ big) : C.wp A (binaryOp .Add u v) (C.Says μ s (.ref H.length, H ++ [.list (vs ++ ws)])) s := by
  cases hx with | mk sl xs n1 m1 ea a1 d1 r1 z1 => ?_
  cases hy with | mk sl' ys n2 m2 eb a2 d2 r2 z2 => ?_
  subst ea eb
  refine concat_meets ⟨_, a1, rfl⟩ ⟨_, a2, rfl⟩ noFill_list_add seq_list_add PySem.F.slot_list_add PySem.F.entry_list_add (PySem.F.args_list_add_2 _ _)
    (list_addW sl.a sl'.a xs.toArray ys.toArray n1 n2 none none #[] #[] (by rw [List.size_toArray, List.size_toArray, r1.length, r2.length]; exact big_line hb)) ⟨a1, a2, ?_⟩
  rw [List.append_toArray]
  exact listNew R (fun b o e => Heap.get?_push_of_some _ e) (by rw [Heap.size_push]; exact Nat.le_succ _) (Nat.le_refl _) (Heap.get?_push_size _ rfl) (r1.append r2) (by rw [List.length_append]; exact hb) _
theorem addV_sim {x y : V} {u v : Value} {z : V × Hp} (R : C.HR μ s.heap H) (hx : C.VR μ s.heap x u) (hy : C.VR μ s.heap y v) (h : addV H x y = some z) : C.wp A (binaryOp .Add u v) (C.Says μ s z) s := by
  cases x with
  | int a =>
    obtain ⟨b, e, rfl⟩ := Option.map_eq_some_iff.mp h
    obtain ⟨t1, rfl⟩ := int_inv hx
    obtain ⟨t2, rfl⟩ := int_inv (V.asI_some e ▸ hy)
    exact add_int ⟨μ, .toks R _, .int _ _⟩
  | tup vs =>
    obtain ⟨ws, e, h⟩ := Option.bind_eq_some_iff.mp h
    obtain ⟨hb, rfl⟩ := if_of h
    exact addT_sim R (tup_inv hx) (tup_inv (V.asT_some e ▸ hy)) hb
  | ref i =>
    obtain ⟨vs, e1, h⟩ := Option.bind_eq_some_iff.mp h
    obtain ⟨ws, e2, h⟩ := Option.bind_eq_some_iff.mp h
    obtain ⟨hb, rfl⟩ := if_of h
    obtain ⟨i', ei, g1⟩ := V.asL_some e1
    obtain ⟨j, rfl, g2⟩ := V.asL_some e2
    exact addL_sim R (lst_inv R g1 (ei ▸ hx)) (lst_inv R g2 hy) hb
  | _ => cases h
theorem binV_sim {op : Operator} {x y : V} {u v : Value} {z : V × Hp} (R : C.HR μ s.heap H) (hx : C.VR μ s.heap x u) (hy : C.VR μ s.heap y v) (h : binV op H x y = some z) :
    C.wp A (binaryOp op u v) (C.Says μ s z) s := by
  cases op with
  | Add => exact addV_sim R hx hy h
  | Sub =>
    obtain ⟨p, e, rfl⟩ := Option.map_eq_some_iff.mp h
    obtain ⟨t1, t2, rfl, rfl⟩ := int2_inv hx hy e
    exact PyProof.Rows.sub_int ⟨μ, .toks R _, .int _ _⟩
  | Mod =>
    obtain ⟨p, e, h⟩ := Option.bind_eq_some_iff.mp h
    obtain ⟨hb, rfl⟩ := if_of h
    obtain ⟨t1, t2, rfl, rfl⟩ := int2_inv hx hy e
    exact mod_int' hb ⟨μ, .toks R _, .int _ _⟩
  | FloorDiv =>
    obtain ⟨p, e, h⟩ := Option.bind_eq_some_iff.mp h
    obtain ⟨hb, rfl⟩ := if_of h
    obtain ⟨t1, t2, rfl, rfl⟩ := int2_inv hx hy e
    rw [dec_eq_true_iff] at hb
    exact floordiv_int hb.1 ⟨μ, .toks R _, .int _ _⟩ (.inl (PyProof.noPylong_small hb.2))
  | Pow =>
    obtain ⟨p, e, h⟩ := Option.bind_eq_some_iff.mp h
    obtain ⟨hb, rfl⟩ := if_of h
    obtain ⟨t1, t2, rfl, rfl⟩ := int2_inv hx hy e
    rw [dec_eq_true_iff] at hb
    exact pow_int_small hb.1 (by omega) (by omega) ⟨μ, .toks R _, .int _ _⟩
  | _ => cases h
end
namespace E
@[simp] noncomputable def bin (op : Operator) (a b : Ex) : Ex := fun m H => (a m H).bind fun p => (b m p.2).bind fun q => binV op q.2 p.1 q.1
@[simp] noncomputable def neg (a : Ex) : Ex := fun m H => (a m H).bind fun p => p.1.asI.map fun i => (.int (-i), p.2)
/-- a[:i] of a list -/
@[simp] noncomputable def upto (a i : Ex) : Ex := fun m H => (a m H).bind fun p => (i m p.2).bind fun q => q.1.asI.bind fun n => (p.1.asS q.2).bind fun vs => if 0 ≤ n then some (.ref q.2.length, q.2 ++ [.list (vs.take n.toNat)]) else none
/-- a[i:] of a list, or of a tuple -/
@[simp] noncomputable def from_ (a i : Ex) : Ex := fun m H => (a m H).bind fun p => (i m p.2).bind fun q => q.1.asI.bind fun n => (p.1.asS q.2).bind fun vs => if 0 ≤ n then some (.ref q.2.length, q.2 ++ [.list (vs.drop n.toNat)]) else none
@[simp] noncomputable def tfrom (a : Ex) (n : Nat) : Ex := fun m H => (a m H).bind fun p => p.1.asT.bind fun vs => if n ≤ vs.length ∧ vs.length ≤ big then some (.tup (vs.drop n), p.2) else none
end E
section
variable {C : Cx} {μ : List Sl} {A : Around} {s : Shared} {H : Hp} {k : Nat} {nm : List (Str × NameKind)}
theorem SimE.bin {op : Operator} {ea eb : Expr} {pos : Pos} {a b : Ex} (ha : SimE C k nm ea a) (hb : SimE C k nm eb b) : SimE C k nm (.BinOp ea op eb pos) (E.bin op a b) := by
  refine ⟨?_⟩
  intro A env s μ H m r en hn F R X H' hf
  obtain ⟨p, hp, hf⟩ := Option.bind_eq_some_iff.mp hf
  obtain ⟨q, hq, hf⟩ := Option.bind_eq_some_iff.mp hf
  exact wpAny_BinOp (ha.pair hb r en hn F R hp hq fun v v2 s2 μ2 S r1 r2 => wp_mono (binV_sim S.hr r1 r2 hf) fun v3 s3 z => let ⟨μ3, S3, r3⟩ := z; ⟨μ3, S.trans S3, r3⟩)
theorem SimE.neg {ea : Expr} {pos : Pos} {a : Ex} (ha : SimE C k nm ea a) : SimE C k nm (.UnaryOp .USub ea pos) (E.neg a) := by
  refine ⟨?_⟩
  intro A env s μ H m r en hn F R X H' hf
  obtain ⟨p, hp, hf⟩ := Option.bind_eq_some_iff.mp hf
  obtain ⟨i, hi, e⟩ := Option.map_eq_some_iff.mp hf
  cases e
  refine UnaryOp_ (wp_mono (ha.r A env s μ H m r en hn F R _ _ hp) fun v s1 z => ?_)
  obtain ⟨μ1, S1, r1⟩ := z
  obtain ⟨t, rfl⟩ := int_inv (V.asI_some hi ▸ r1)
  exact neg_int ⟨μ1, S1.trans (.toks S1.hr _), .int _ _⟩
theorem SimE.dict0 {pos : Pos} : SimE C k nm (.Dict [] [] pos) E.dict0 := by
  refine ⟨?_⟩
  intro A env s μ H m r en hn F R X H' hf
  cases hf
  have hx : (μ ++ [⟨s.heap.objs.size, s.heap.objs.size⟩])[H.length]? = some ⟨s.heap.objs.size, s.heap.objs.size⟩ := by rw [← R.len, List.getElem?_concat_length]
  exact wpAny_Dict_empty ⟨_, .push (sl := ⟨s.heap.objs.size, s.heap.objs.size⟩) R (fun b o q => Heap.get?_push_of_some _ q) (by rw [Heap.size_push]; exact Nat.le_succ _) (Nat.le_refl _) (Nat.le_refl _)
    (.dict (.emp (n := 0) (Heap.get?_push_size _ rfl)) rfl) _, .ref hx⟩
theorem get_push2 {h : Heap} {o o' : Obj} {l : Addr} {x : Obj} (e : h.get? l = some x) : ((h.push o).push o').get? l = some x := Heap.get?_push_of_some _ (Heap.get?_push_of_some _ e)
theorem get_snd {h : Heap} {o o' : Obj} (ho : o'.isFreed = false) : ((h.push o).push o').get? (h.objs.size + 1) = some o' := by
  have := Heap.get?_push_size (h.push o) (o := o') ho
  rwa [Heap.size_push] at this
theorem size_push2 {h : Heap} {o o' : Obj} : h.objs.size ≤ ((h.push o).push o').objs.size := by rw [Heap.size_push, Heap.size_push]; exact Nat.le_add_right _ 2
/-- the new list of a slice -/
theorem slice_new {μ0 : List Sl} {s0 : Shared} {H0 : Hp} {o : Obj} {vs : List V} {xs : List Value} (S : C.Stp μ0 noW s0 μ s H) (r : C.VRs μ s.heap vs xs) (z : vs.length ≤ big) (tk : Nat) :
    ∃ μ', C.Stp μ0 noW s0 μ' { s with heap := (s.heap.push o).push (listOf xs.toArray 0), toks := tk } (H ++ [.list vs]) ∧ C.VR μ' ((s.heap.push o).push (listOf xs.toArray 0)) (.ref H.length) (.ref (s.heap.objs.size + 1)) :=
  let ⟨μ3, S3, r3⟩ := listNew (W := noW) (b := s.heap.objs.size + 1) S.hr (fun b o e => get_push2 e) size_push2 (Nat.le_succ _) (get_snd (o := o) rfl) r z tk; ⟨μ3, S.trans S3, r3⟩
theorem SimE.upto {ea ei : Expr} {p pos : Pos} {a i : Ex} (ha : SimE C k nm ea a) (hi : SimE C k nm ei i) (ht : ∀ o r, letTemporaryGo ea o r = pure ()) : SimE C k nm (.Subscript ea (.Slice none (some ei) none p) pos) (E.upto a i) := by
  refine ⟨?_⟩
  intro A env s μ H m r en hn F R X H' hf
  obtain ⟨p, hp, hf⟩ := Option.bind_eq_some_iff.mp hf
  obtain ⟨q, hq, hf⟩ := Option.bind_eq_some_iff.mp hf
  obtain ⟨n, hi0, hf⟩ := Option.bind_eq_some_iff.mp hf
  obtain ⟨vs, hs, hf⟩ := Option.bind_eq_some_iff.mp hf
  obtain ⟨hc, e⟩ := if_of hf
  cases e
  refine wpAny_Subscript_list_slice (wp_mono (ha.r A env s μ H m r en hn F R _ _ hp) fun v s1 z => ?_) ht
  obtain ⟨μ1, S1, r1⟩ := z
  refine evalPart_none_step (evalPart_some_step (wp_mono (hi.r A env s1 μ1 _ m r en hn (F.stp R S1) S1.hr _ _ hq) fun v2 s2 z => ?_))
  obtain ⟨μ2, S2, r2⟩ := z
  cases seq_inv S2.hr (r1.mono (S2.tup0 S1.hr) S2.pre) hs with | mk l xs e g rr z => ?_
  subst e
  obtain ⟨t, rfl⟩ := int_inv (V.asI_some hi0 ▸ r2)
  refine ⟨l, xs.toArray, none, some n, rfl, g, by rw [List.size_toArray, rr.length]; exact big_line z, .none, .int _ _, ?_⟩
  have e3 : slicePick xs.toArray none (some n) none = (xs.take n.toNat).toArray := by
    have := slicePick_upto' xs.toArray n.toNat
    rw [Int.toNat_of_nonneg hc] at this
    exact this
  rw [e3]
  exact slice_new (H0 := H) (S1.trans S2) (rr.take n.toNat) (by rw [List.length_take]; exact Nat.le_trans (Nat.min_le_right _ _) z) s2.toks
theorem SimE.from_ {ea ei : Expr} {p pos : Pos} {a i : Ex} (ha : SimE C k nm ea a) (hi : SimE C k nm ei i) (ht : ∀ o r, letTemporaryGo ea o r = pure ()) : SimE C k nm (.Subscript ea (.Slice (some ei) none none p) pos) (E.from_ a i) := by
  refine ⟨?_⟩
  intro A env s μ H m r en hn F R X H' hf
  obtain ⟨p, hp, hf⟩ := Option.bind_eq_some_iff.mp hf
  obtain ⟨q, hq, hf⟩ := Option.bind_eq_some_iff.mp hf
  obtain ⟨n, hi0, hf⟩ := Option.bind_eq_some_iff.mp hf
  obtain ⟨vs, hs, hf⟩ := Option.bind_eq_some_iff.mp hf
  obtain ⟨hc, e⟩ := if_of hf
  cases e
  refine wpAny_Subscript_list_slice (wp_mono (ha.r A env s μ H m r en hn F R _ _ hp) fun v s1 z => ?_) ht
  obtain ⟨μ1, S1, r1⟩ := z
  refine evalPart_some_step (wp_mono (hi.r A env s1 μ1 _ m r en hn (F.stp R S1) S1.hr _ _ hq) fun v2 s2 z => evalPart_none_step ?_)
  obtain ⟨μ2, S2, r2⟩ := z
  cases seq_inv S2.hr (r1.mono (S2.tup0 S1.hr) S2.pre) hs with | mk l xs e g rr z => ?_
  subst e
  obtain ⟨t, rfl⟩ := int_inv (V.asI_some hi0 ▸ r2)
  refine ⟨l, xs.toArray, some n, none, rfl, g, by rw [List.size_toArray, rr.length]; exact big_line z, .int _ _, .none, ?_⟩
  have e3 : slicePick xs.toArray (some n) none none = (xs.drop n.toNat).toArray := by
    have := slicePick_from' xs.toArray n.toNat
    rw [Int.toNat_of_nonneg hc] at this
    simpa using this
  rw [e3]
  exact slice_new (H0 := H) (S1.trans S2) (rr.drop n.toNat) (by rw [List.length_drop]; exact Nat.le_trans (Nat.sub_le _ _) z) s2.toks
theorem SimE.tfrom {ea : Expr} {n : Nat} {kk : Nat} {p p2 pos : Pos} {a : Ex} (ha : SimE C k nm ea a) (h1 : 1 ≤ n) (ht : ∀ o r, letTemporaryGo ea o r = pure ()) : SimE C k nm (.Subscript ea (.Slice (some (.Constant (.int n) kk p2)) none none p) pos) (E.tfrom a n) := by
  refine ⟨?_⟩
  intro A env s μ H m r en hn F R X H' hf
  obtain ⟨p, hp, hf⟩ := Option.bind_eq_some_iff.mp hf
  obtain ⟨vs, hv, hf⟩ := Option.bind_eq_some_iff.mp hf
  obtain ⟨hc, e⟩ := if_of hf
  cases e
  refine PySem.wpAny_Subscript_Slice (T := "tuple") slot_tuple_getitem.lookup (wp_mono (ha.r A env s μ H m r en hn F R _ _ hp) fun v s1 z => wpAny_Slice ?_) ht
  obtain ⟨μ1, S1, r1⟩ := z
  cases tup_inv (V.asT_some hv ▸ r1) with | mk a xs e e1 rr => ?_
  subst e
  have hl := rr.length
  refine evalPart_some_step (wpAny_Constant_int (evalPart_none_step (evalPart_none_step ?_)))
  refine ⟨⟨_, Heap.get?_push_of_some _ e1, rfl⟩, getItem_tuple_from (items := xs.toArray) (IsTup.of (Heap.get?_push_of_some _ e1)) (Heap.IsSliceOf.new ..) h1 (by rw [List.size_toArray, hl]; exact hc.1) ?_ (by rw [List.size_toArray, hl]; exact big_line hc.2)⟩
  exact ⟨μ1, S1.trans (.grow S1.hr (fun b o e => get_push2 e) size_push2 _), .tup (vs := xs.drop n) (Heap.get?_push_size _ rfl) ((rr.drop n).mono (fun a vs e => get_push2 e) (.refl _))⟩
theorem rangeVs_rel {h : Heap} {a b : Int} {acc : Array Value} (e : ItemsOf (fun i v => ∃ t, v = Value.int (a + i * 1) t) acc (b - a).toNat) : C.VRs μ h (E.rangeVs a b) acc.toList := by
  obtain ⟨h1, h2⟩ := e
  have key : ∀ (n k : Nat) (l : List Value), l.length = n → (∀ j v, l[j]? = some v → ∃ t, v = Value.int (a + (k + j : Nat) * 1) t) → C.VRs μ h ((List.range' k n).map fun (i : Nat) => V.int (a + i)) l := by
    intro n
    induction n with
    | zero => intro k l e _; cases l with | nil => exact .nil | cons _ _ => cases e
    | succ n ih =>
      intro k l e q
      cases l with
      | nil => cases e
      | cons x l =>
        obtain ⟨t, rfl⟩ := q 0 x rfl
        rw [List.range'_succ, List.map_cons]
        refine .cons ?_ (ih (k + 1) l (by simpa using e) fun j v hj => ?_)
        · have : a + ((k + 0 : Nat) : Int) * 1 = a + (k : Int) := by simp
          rw [this]; exact .int _ _
        · obtain ⟨t, e⟩ := q (j + 1) v (by simpa using hj)
          exact ⟨t, by rw [e]; congr 3; omega⟩
  unfold E.rangeVs
  rw [List.range_eq_range']
  exact key _ 0 acc.toList (by simpa using h1) fun j v hj => by
    have := h2 j v (by simpa using hj)
    simpa using this
theorem rangeVs_length (a b : Int) : (E.rangeVs a b).length = (b - a).toNat := by simp [E.rangeVs]
theorem SimE.listRange (G : C.Ok) {e : Expr} {p p2 pos pos2 : Pos} {a : Ex} (h : SimE C k nm e a) (hs : notStar e = true) (hl : nm.lookup (Str.ofString "list") = some .globalImplicit) (hg : GB C "list" (.type "list"))
    (hl2 : nm.lookup (Str.ofString "range") = some .globalImplicit) (hg2 : GB C "range" (.type "range")) : SimE C k nm (.Call (.Name (Str.ofString "list") p) [.Call (.Name (Str.ofString "range") p2) [e] [] pos2] [] pos) (E.listRange a) := by
  refine ⟨?_⟩
  intro A env s μ H m r en hn F R X H' hf
  obtain ⟨q, hq, hf⟩ := Option.bind_eq_some_iff.mp hf
  obtain ⟨n, hi, hf⟩ := Option.bind_eq_some_iff.mp hf
  obtain ⟨hc, e⟩ := if_of hf
  rw [sm_iff] at hc
  cases e
  refine eval_Call_Name (name_GB (m := m) G en hn R hl hg (by decide) ?_)
  refine callWith_of (P := fun h => ∀ b o, C.h0.get? b = some o → h.get? b = some o) rfl (fun h b => (KeepOk.type "list") h b) ?_
  have hst : starEach [Expr.Call (.Name (Str.ofString "range") p2) [e] [] pos2] env = [(false, eval (Expr.Call (.Name (Str.ofString "range") p2) [e] [] pos2) env)] := rfl
  rw [hst]
  refine evalArgs_plain (spliced_cons ?_)
  refine eval_Call_Name (name_GB (m := m) G en hn R hl2 hg2 (by decide) (callW (SimA.one h hs) (.type _) r en hn F R (evs_one hq) fun vs μ1 s1 S1 r1 => ?_))
  cases r1 with | cons r1 r2 => ?_
  cases r2
  obtain ⟨t, rfl⟩ := int_inv (V.asI_some hi ▸ r1)
  refine call_range_1 (spliced_nil ?_)
  refine ⟨fun b o e => Heap.get?_push_of_some _ (S1.hr.base b o e), ?_⟩
  refine with_size (call_list_range (n := n.toNat) r.handled (IsRange.new _ _ _ _ _ _ _) (small_one (by omega) (by omega) (by omega) (by omega)) ?_ (by omega) fun h' tk acc c' k1 e2 it hz => ?_)
  · rw [rangeSize_one]; split <;> omega
  have r3 := rangeVs_rel (C := C) (μ := μ1) (h := s1.heap) (a := 0) (b := n) (acc := acc) (by rw [Int.sub_zero]; exact it)
  have hz2 : s1.heap.objs.size ≤ h'.objs.size := Nat.le_trans (by show _ ≤ (s1.heap.push _).objs.size; rw [Heap.size_push]; exact Nat.le_succ _) hz
  rw [Heap.size_push] at e2 ⊢
  obtain ⟨μ3, S3, r4⟩ := listNew (W := noW) (n := c') (b := s1.heap.objs.size + 1) S1.hr (fun b o e => k1 b o (Heap.get?_push_of_some _ e)) hz2 (Nat.le_succ _) (by rw [Array.toArray_toList]; exact e2) r3 (by rw [rangeVs_length]; unfold big; omega) tk
  exact ⟨μ3, S1.trans S3, r4⟩
end
structure ClsOk (C : Cx) (c : Addr) : Prop where
  ga : findIn C.K (.ref c) "__getattribute__" = some (some (.builtin "object.__getattribute__"))
  gk : findIn C.K (.ref c) "__getattr__" = some none
  sa : findIn C.K (.ref c) "__setattr__" = some (some (.builtin "object.__setattr__"))
  over : plainOver C.K c = true
  dict : (clsIn C.K c).any (·.hasDict) = true
section
variable {h0 h : Heap} {μ : List Sl}
theorem FEs.find {fs : List (String × V)} {ds : List DictEntry} (x : FEs h0 μ h fs ds) {f : String} {X : V} (e : fs.lookup f = some X) : ∃ d, ds.find? (·.key.isStr (Str.ofString f)) = some d ∧ VR h0 μ h X d.val := by
  induction x with
  | nil => cases e
  | @cons g Y d fs ds hk hv _ ih =>
    obtain ⟨t, hk⟩ := hk
    rw [List.lookup_cons] at e
    by_cases hfg : f = g
    · subst hfg
      rw [beq_self_eq_true] at e
      cases e
      exact ⟨d, by rw [List.find?_cons, hk]; simp [Value.isStr], hv⟩
    · have : (f == g) = false := beq_eq_false_iff_ne.mpr hfg
      rw [this] at e
      obtain ⟨d', a, b⟩ := ih e
      refine ⟨d', ?_, b⟩
      rw [List.find?_cons, hk]
      have : Value.isStr (.str (Str.ofString g) t) (Str.ofString f) = false := by
        simp only [Value.isStr, beq_eq_false_iff_ne]
        exact fun q => hfg (ofString_inj q).symm
      rw [this]; exact a
theorem FEs.miss {fs : List (String × V)} {ds : List DictEntry} (x : FEs h0 μ h fs ds) {f : String} (e : fs.lookup f = none) : ds.find? (·.key.isStr (Str.ofString f)) = none := by
  induction x with
  | nil => rfl
  | @cons g Y d fs ds hk hv _ ih =>
    obtain ⟨t, hk⟩ := hk
    rw [List.lookup_cons] at e
    by_cases hfg : f = g
    · subst hfg
      rw [beq_self_eq_true] at e
      cases e
    · have : (f == g) = false := beq_eq_false_iff_ne.mpr hfg
      rw [this] at e
      rw [List.find?_cons, hk]
      have : Value.isStr (.str (Str.ofString g) t) (Str.ofString f) = false := by
        simp only [Value.isStr, beq_eq_false_iff_ne]
        exact fun q => hfg (ofString_inj q).symm
      rw [this]; exact ih e
theorem FEs.noRef {fs : List (String × V)} {ds : List DictEntry} (x : FEs h0 μ h fs ds) : ds.any (·.refKey) = false := by
  induction x with
  | nil => rfl
  | cons hk _ _ ih =>
    obtain ⟨t, hk⟩ := hk
    rw [List.any_cons, ih]
    simp [DictEntry.refKey, hk]
theorem FEs.length {fs : List (String × V)} {ds : List DictEntry} (x : FEs h0 μ h fs ds) : ds.length = fs.length := by
  induction x with
  | nil => rfl
  | cons _ _ _ ih => simp [ih]
end
namespace E
noncomputable def putF (f : String) (X : V) : List (String × V) → List (String × V)
  | [] => [(f, X)]
  | (g, Y) :: r => if g = f then (g, X) :: r else (g, Y) :: putF f X r
noncomputable def setF (c : Addr) (f : String) (X : V) (H : Hp) (o : V) : Option Hp := (o.asN c H).bind fun p => if p.2.length < 50 then some (H.set p.1 (.inst c (putF f X p.2))) else none
end E
theorem putF_keys (f : String) (X : V) : ∀ fs : List (String × V), (fs.map (·.1)).Nodup → ((E.putF f X fs).map (·.1)).Nodup ∧ (∀ g, g ∈ (E.putF f X fs).map (·.1) → g = f ∨ g ∈ fs.map (·.1)) ∧ (E.putF f X fs).length ≤ fs.length + 1
  | [], _ => by simp [E.putF]
  | (g, Y) :: r, h => by
    rw [List.map_cons, List.nodup_cons] at h
    unfold E.putF
    by_cases hg : g = f
    · rw [if_pos hg]
      refine ⟨?_, fun x hx => .inr hx, by simp⟩
      rw [List.map_cons, List.nodup_cons]
      exact h
    · rw [if_neg hg]
      obtain ⟨a, b, c⟩ := putF_keys f X r h.2
      refine ⟨?_, fun x hx => ?_, ?_⟩
      · rw [List.map_cons, List.nodup_cons]
        refine ⟨fun q => ?_, a⟩
        rcases b _ q with q | q
        · exact hg q
        · exact h.1 q
      · rw [List.map_cons, List.mem_cons] at hx ⊢
        rcases hx with hx | hx
        · exact .inr (.inl hx)
        · rcases b _ hx with q | q
          · exact .inl q
          · exact .inr (.inr q)
      · simp only [List.length_cons]; omega
theorem FEs.put {h0 h : Heap} {μ : List Sl} {fs : List (String × V)} {ds : List DictEntry} (x : FEs h0 μ h fs ds) (f : String) {X : V} {v : Value} (hv : VR h0 μ h X v) (n : Int) (t : Tok) :
    FEs h0 μ h (E.putF f X fs) (putIn (·.key.isStr (Str.ofString f)) (fun e => { e with val := v }) ⟨n, .str (Str.ofString f) t, v⟩ ds) := by
  induction x with
  | nil => exact .cons ⟨t, rfl⟩ hv .nil
  | @cons g Y d fs ds hk hy hr ih =>
    have hk' := hk
    obtain ⟨u, hk⟩ := hk
    unfold E.putF
    by_cases hg : g = f
    · subst hg
      rw [if_pos rfl, putIn_hit _ _ _ _ _ (by rw [hk]; simp [Value.isStr])]
      exact .cons ⟨u, hk⟩ hv hr
    · rw [if_neg hg, putIn_miss _ _ _ _ _ (by rw [hk]; simp only [Value.isStr, beq_eq_false_iff_ne]; exact fun q => hg (ofString_inj q))]
      exact .cons hk' hy ih
section
variable {C : Cx} {μ : List Sl} {A : Around} {s : Shared} {H : Hp} {k : Nat} {nm : List (Str × NameKind)}
theorem HR.keepT {prog : Program} {w : World} {h0 h h' : Heap} (R : HR prog w h0 μ h H) {i : Nat} {sl : Sl} {b : Addr} (e : μ[i]? = some sl) (hb : b = sl.a ∨ b = sl.d) (hs : Heap.SameBut b h h') : TupKeep h h' := by
  obtain ⟨ob, eb, nb⟩ := R.there (a := b) ⟨sl, List.mem_of_getElem? e, hb⟩
  exact fun a o ea => (hs.2 a fun q => by rw [q, eb] at ea; cases ea; exact nb rfl).trans ea
theorem instAt {h : Heap} {c : Addr} {sl : Sl} {ds : List DictEntry} {n : Nat} (a1 : h.get? sl.a = some (instObj c sl.d)) (d1 : h.get? sl.d = some (dictObj ds n)) : InstAt h sl.a (instObj c sl.d) c (some (dictObj ds n)) := ⟨a1, rfl, rfl, d1⟩
theorem look_hit {h0 h : Heap} {fs : List (String × V)} {ds : List DictEntry} {n : Nat} (x : FEs h0 μ h fs ds) {f : String} {X : V} (e : fs.lookup f = some X) : ∃ v, lookIn (Str.ofString f) (dictObj ds n) = some (some v) ∧ VR h0 μ h X v := by
  obtain ⟨d, a, b⟩ := x.find e
  refine ⟨d.val, ?_, b⟩
  unfold lookIn
  simp only
  rw [a]
theorem look_miss {h0 h : Heap} {fs : List (String × V)} {ds : List DictEntry} {n : Nat} (x : FEs h0 μ h fs ds) {f : String} (e : fs.lookup f = none) : lookIn (Str.ofString f) (dictObj ds n) = some none := by
  unfold lookIn
  simp only
  rw [x.miss e, x.noRef]
  rfl
theorem handed {h0 h : Heap} {X : V} {v : Value} (x : VR h0 μ h X v) : handedIn v = true := by cases x <;> rfl
theorem SimE.attr (G : C.Ok) {c : Addr} {f : String} {eo : Expr} {pos : Pos} {o : Ex} (hc : ClsOk C c) (ho : SimE C k nm eo o) (hf : findIn C.K (.ref c) (Str.ofString f) = some none) (hb : ∀ env, attributeBase eo (Str.ofString f) env (eval eo env) = eval eo env) :
    SimE C k nm (.Attribute eo (Str.ofString f) pos) (E.attr c f o) := by
  refine ⟨?_⟩
  intro A env s μ H m r en hn F R X H' hh
  obtain ⟨p, hp, hh⟩ := Option.bind_eq_some_iff.mp hh
  obtain ⟨Y, hy, hh⟩ := Option.map_eq_some_iff.mp hh
  obtain ⟨t, ht, hy⟩ := Option.bind_eq_some_iff.mp hy
  cases hh
  obtain ⟨e, g⟩ := V.asN_some ht
  refine Attribute_any_ (wp_mono (ho.r A env s μ H m r en hn F R _ _ hp) fun v s1 z => ?_) (by rw [arm_eval_Attribute, hb])
  obtain ⟨μ1, S1, r1⟩ := z
  cases ins_inv S1.hr g (e ▸ r1) with | mk sl ds n _ eu a1 d1 fe nd z => ?_
  subst eu
  obtain ⟨v, l1, r2⟩ := look_hit (n := n) fe hy
  obtain ⟨cd, hcd, hdict⟩ := any_some hc.dict
  have hfo : findObj C.K c (some (dictObj ds n)) (Str.ofString f) = some (.value v) := by
    unfold findObj
    rw [hcd, Option.bind_some, hf, Option.bind_some]
    simp only [Option.bind_some]
    unfold W.ownOf
    rw [hdict, if_pos rfl]
    simp only
    rw [l1]
    rfl
  exact get_value (G.X.keeps S1.hr.base) (instAt a1 d1) hc.ga hfo (handed r2) ⟨μ1, S1.trans (.toks S1.hr _), r2⟩
theorem setAttr_sim (G : C.Ok) {c : Addr} {f : String} {o X : V} {ov v : Value} {H' : Hp} (hc : ClsOk C c) (hf : findIn C.K (.ref c) (Str.ofString f) = some none) (R : C.HR μ s.heap H) (ho : C.VR μ s.heap o ov) (hv : C.VR μ s.heap X v) (h : E.setF c f X H o = some H')
    {Q : Unit → Shared → Prop} (q : ∀ s', C.Stp μ noW s μ s' H' → Q () s') : C.wp A (setAttr ov (Str.ofString f) v) Q s := by
  obtain ⟨t, ht, h⟩ := Option.bind_eq_some_iff.mp h
  obtain ⟨hlt, rfl⟩ := if_of h
  obtain ⟨e, g⟩ := V.asN_some ht
  cases ins_inv R g (e ▸ ho) with | mk sl ds n e3 eu a1 d1 fe nd z => ?_
  subst eu
  obtain ⟨cd, hcd, hdict⟩ := any_some hc.dict
  have X1 := G.X.keeps R.base
  have I := instAt a1 d1
  refine set_plain X1 I hc.sa (osa_open (s := { s with toks := s.toks + 1 }) (r := none) X1 I hc.over (by unfold takerIn; rw [hf]; rfl) fun b => ?_)
  refine wpAny_bind (wpAny_pure (wpAny_bind (wpAny_bind (wpAny_loadPart a1 (wpAny_bind ((looks_clsIn (M := model C.prog C.w) X1 hcd) _ _ _ _ (fun _ _ e => e) ?_))))))
  rw [hdict]
  refine wpAny_pure (a := some sl.d) (wpAny_bind (wpAny_pure (wpAny_bind ?_)))
  unfold nsSet
  refine wpAny_bind (wpAny_bind (wpAny_askSetting (wpAny_pure (wpAny_bind (wpAny_mkText (wpAny_bind (wpAny_loadPart d1 ?_)))))))
  dsimp only
  have cc : (!ds.toArray.any (·.key.isStr (Str.ofString f)) && ds.toArray.any (·.refKey)) = false := by
    rw [← Array.any_toList, ← Array.any_toList, fe.noRef, Bool.and_false]
  rw [aRefKeyMayBeTheName_at, cc]
  have hu : (s.heap.update sl.d (Obj.putName (Str.ofString f) (PyData.keyHash C.w.params (Str.ofString f)) (.str (Str.ofString f) (s.toks + 1)) v)).get? sl.d = some (dictObj (putIn (·.key.isStr (Str.ofString f)) (fun e => { e with val := v }) ⟨PyData.keyHash C.w.params (Str.ofString f), .str (Str.ofString f) (s.toks + 1), v⟩ ds) (if ds.any (·.key.isStr (Str.ofString f)) then n else n + 1)) := by
    rw [Heap.get?_update_self _ d1 (by rw [putName_eq]; rfl), putName_eq]
  have hs := Heap.SameBut.update s.heap sl.d (Obj.putName (Str.ofString f) (PyData.keyHash C.w.params (Str.ofString f)) (.str (Str.ofString f) (s.toks + 1)) v)
  have hk := putF_keys f X t.2 nd
  have fe' := fe.put f hv (PyData.keyHash C.w.params (Str.ofString f)) (s.toks + 1)
  have hl : (E.putF f X t.2).length ≤ 50 := Nat.le_trans hk.2.2 hlt
  have hne : sl.a ≠ sl.d := fun e => by rw [e, d1] at a1; cases a1
  have S2 := Stp.set (W := noW) R e3 (.inr rfl) hs (.inst (C := c) ((hs.2 _ hne).trans a1) hu (fe'.mono (R.keepT e3 (.inr rfl) hs) (.refl _)) hk.1 hl) (s.toks + 1 + 1)
  refine wpAny_updatePart d1 ?_
  exact wpAny_bind (wpAny_lookBehind hu (pastItsLine_dict (by rw [List.size_toArray, fe'.length]; exact Nat.le_trans hl (by rw [sizeLine_eq]; decide))) (wpAny_pure (q _ S2)))
end
/-! calls of methods -/
section
variable {C : Cx} {μ : List Sl} {A : Around} {s : Shared} {H : Hp} {k : Nat} {nm : List (Str × NameKind)}
theorem callM {eo : Expr} {name : Str} {apos pos : Pos} {es : List Expr} {env : Env} {fs : List Ex} {Q : Value → Shared → Prop} (hA : SimA C k nm es fs) (hb : attributeBase eo name env (eval eo env) = eval eo env) (hlen : es.length < 29) (hline : (apos.endLine == pos.line) = true)
    (h : C.wp A (eval eo env) (fun ov s1 => ∀ pl, C.wp A (getMethod ov name pl) (fun p s2 => C.wp A (callWith pos p.1 p.2 (backTo pos (starEach es env)) []) Q s2) s1) s) : C.wp A (eval (.Call (.Attribute eo name apos) es [] pos) env) Q s := by
  show wpAny _ A _ _ _ s
  rw [arm_eval_Call, hb]
  refine wpAny_bind (wp_mono h fun ov s1 z => wpAny_bind (wpAny_standAt ?_))
  have hform : methodCallForm (es.length + ([] : List Keyword).length) (backTo pos (starEach es env)) (backToKw pos (keywordEach [] env)) = true := by
    unfold methodCallForm
    rw [hA.few]
    show (true && true && decide _) = true
    simp only [Bool.and_self, Bool.true_and, decide_eq_true_eq]
    show es.length + 0 + 0 < 30
    omega
  have hpos : methodCallPos true eo env apos pos = pure pos := by unfold methodCallPos; simp [hline]
  unfold methodCall
  rw [hform]
  refine wpAny_bind (wpAny_holding ?_)
  refine wp_mono (z _) fun p s2 z2 => ?_
  obtain ⟨f, first⟩ := p
  exact wpAny_bind (wpAny_of_eq hpos z2)
theorem callB {eo : Expr} {name : Str} {apos pos : Pos} {es : List Expr} {env : Env} {o : Ex} {fs : List Ex} {m : Loc} {T id : String} {rr : Nat} {H1 H2 : Hp} {Xs : List V} {Q : Value → Shared → Prop} (ho : SimE C k nm eo o) (hA : SimA C k nm es fs)
    (hb : attributeBase eo name env (eval eo env) = eval eo env) (hlen : es.length < 29) (hline : (apos.endLine == pos.line) = true) (pa : PlainAttrs T) (slot : Slot T name id) (hty : typeOf (.builtin id) = pure (.type "method_descriptor"))
    (r : Room A k) (en : EnvOk env) (hn : env.scope.names = nm) (F : FR C env μ s.heap m) (R : C.HR μ s.heap H) (hp : o m H = some (.ref rr, H1)) (hT : ∀ μ' (s' : Shared) sl, C.HR μ' s'.heap H1 → μ'[rr]? = some sl → s'.TypeIs (.ref sl.a) T ∧ ∃ ob, s'.heap.get? sl.a = some ob ∧ ob.dict = none)
    (hq : E.evs fs m H1 = some (Xs, H2)) (q : ∀ sl vs μ' s', C.Stp μ noW s μ' s' H2 → μ'[rr]? = some sl → C.VRs μ' s'.heap Xs vs → C.wp A (call (.builtin id) (.ref sl.a :: vs)) Q s') :
    C.wp A (eval (.Call (.Attribute eo name apos) es [] pos) env) Q s := by
  refine callM hA hb hlen hline (wp_mono (ho.r A env s μ H m r en hn F R _ _ hp) fun v s1 z pl => ?_)
  obtain ⟨μ1, S1, r1⟩ := z
  cases r1 with | @ref _ sl e1 => ?_
  obtain ⟨t1, ob, t2, t3⟩ := hT μ1 s1 sl S1.hr e1
  refine getMethod_builtin t1 pa slot hty (fun a e => by cases e; exact ⟨ob, t2, t3⟩) ?_
  exact callW hA (.builtin _) r en hn (F.stp R S1) S1.hr hq fun vs μ2 s2 S2 r2 => q sl vs μ2 s2 (S1.trans S2) (S2.pre _ _ e1) r2
theorem callO (G : C.Ok) {eo : Expr} {name : String} {apos pos : Pos} {es : List Expr} {env : Env} {o : Ex} {fs : List Ex} {m : Loc} {c fa : Addr} {rr : Nat} {H1 H2 : Hp} {Xs : List V} {fd : List (String × V)} {Q : Value → Shared → Prop} (ho : SimE C k nm eo o) (hA : SimA C k nm es fs)
    (hb : attributeBase eo (Str.ofString name) env (eval eo env) = eval eo env) (hlen : es.length < 29) (hline : (apos.endLine == pos.line) = true) (hc : ClsOk C c) (hf : findIn C.K (.ref c) (Str.ofString name) = some (some (.ref fa))) (ht : typeIn C.K (.ref fa) = some (.type "function")) (hk : keepIn C.K (.ref fa) = true)
    (r : Room A k) (en : EnvOk env) (hn : env.scope.names = nm) (F : FR C env μ s.heap m) (R : C.HR μ s.heap H) (hp : o m H = some (.ref rr, H1)) (hT : H1[rr]? = some (.inst c fd)) (hsh : fd.lookup name = none)
    (hq : E.evs fs m H1 = some (Xs, H2)) (q : ∀ sl vs μ' s', C.Stp μ noW s μ' s' H2 → μ'[rr]? = some sl → C.VRs μ' s'.heap Xs vs → C.wp A (call (.ref fa) (.ref sl.a :: vs)) Q s') :
    C.wp A (eval (.Call (.Attribute eo (Str.ofString name) apos) es [] pos) env) Q s := by
  refine callM hA hb hlen hline (wp_mono (ho.r A env s μ H m r en hn F R _ _ hp) fun v s1 z pl => ?_)
  obtain ⟨μ1, S1, r1⟩ := z
  cases r1 with | @ref _ sl e1 => ?_
  obtain ⟨sl', e4, o1⟩ := S1.hr.at hT
  rw [e1] at e4; cases e4
  cases o1 with | inst a1 d1 fe nd z => ?_
  refine method_fn (G.X.keeps S1.hr.base) (instAt a1 d1) hc.ga hc.gk hf ht (by unfold shadowIn; dsimp only; rw [look_miss fe hsh]; rfl) ?_
  exact callW hA (.inK G hk) r en hn (F.stp R S1) S1.hr hq fun vs μ2 s2 S2 r2 => q sl vs μ2 s2 (S1.trans S2) (S2.pre _ _ e1) r2
theorem listTy {H1 : Hp} {rr : Nat} {Vs : List V} (e : H1[rr]? = some (.list Vs)) : ∀ μ' (s' : Shared) sl, C.HR μ' s'.heap H1 → μ'[rr]? = some sl → s'.TypeIs (.ref sl.a) "list" ∧ ∃ ob, s'.heap.get? sl.a = some ob ∧ ob.dict = none := by
  intro μ' s' sl R e1
  obtain ⟨sl', e4, o1⟩ := R.at e
  rw [e1] at e4; cases e4
  cases o1 with | list a1 _ _ _ => ?_
  exact ⟨⟨_, a1, rfl⟩, _, a1, rfl⟩
theorem DR.dictTy {prog : Program} {w : World} {h0 h : Heap} {a : Addr} {D : Dct} (x : DR prog w h0 μ h a D) : ∃ o, h.get? a = some o ∧ o.cls = .type "dict" ∧ o.dict = none := by
  cases x with
  | emp e => exact ⟨_, e, rfl, rfl⟩
  | I m l r z => obtain ⟨o, es, ep, e, q, _⟩ := m; exact ⟨o, e, q.1, q.2.1⟩
  | S m l r z => obtain ⟨o, es, ep, e, q, _⟩ := m; exact ⟨o, e, q.1, q.2.1⟩
  | T m l t r z => obtain ⟨o, es, ep, e, q, _⟩ := m; exact ⟨o, e, q.1, q.2.1⟩
theorem dictTy {H1 : Hp} {rr : Nat} {D : Dct} (e : H1[rr]? = some (.dict D)) : ∀ μ' (s' : Shared) sl, C.HR μ' s'.heap H1 → μ'[rr]? = some sl → s'.TypeIs (.ref sl.a) "dict" ∧ ∃ ob, s'.heap.get? sl.a = some ob ∧ ob.dict = none := by
  intro μ' s' sl R e1
  obtain ⟨sl', e4, o1⟩ := R.at e
  rw [e1] at e4; cases e4
  cases o1 with | dict dr _ => ?_
  obtain ⟨o, a, b, c⟩ := dr.dictTy
  exact ⟨⟨_, a, b⟩, _, a, c⟩
/-- a list changes -/
theorem listUpd {W : Addr → Prop} (R : C.HR μ s.heap H) {i n : Nat} {sl : Sl} {vs ws : List Value} {Ws : List V} {f : Array Value → Array Value} (e : μ[i]? = some sl) (a1 : s.heap.get? sl.a = some (listOf vs.toArray n)) (hd : sl.d = sl.a) (hf : f vs.toArray = ws.toArray)
    (r : C.VRs μ s.heap Ws ws) (z : Ws.length ≤ big) (tk : Nat) : C.Stp μ W s μ { s with heap := s.heap.update sl.a (Obj.mapSeq f), toks := tk } (H.set i (.list Ws)) := by
  have hs := Heap.SameBut.update s.heap sl.a (Obj.mapSeq f)
  have q := PySem.IsL.update a1 f
  rw [hf] at q
  exact .set R e (.inl rfl) hs (.list q hd (r.mono (R.keepT e (.inl rfl) hs) (.refl _)) z) tk
end
noncomputable def ixOf (x : V) : List V → Option Nat
  | [] => none
  | v :: r => if dec (v = x) = true then some 0 else (ixOf x r).map (· + 1)
theorem ixOf_spec {x : V} : ∀ {vs : List V} {j : Nat}, ixOf x vs = some j → vs[j]? = some x ∧ ∀ i, i < j → ∀ v, vs[i]? = some v → v ≠ x
  | [], _, h => by cases h
  | v :: r, j, h => by
    unfold ixOf at h
    split at h
    · rename_i hd
      cases h
      rw [dec_eq_true_iff] at hd
      subst hd
      exact ⟨rfl, fun i hi => by omega⟩
    · rename_i hd
      obtain ⟨i, hi, rfl⟩ := Option.map_eq_some_iff.mp h
      obtain ⟨a, b⟩ := ixOf_spec hi
      refine ⟨a, fun i' hi' v' hv' => ?_⟩
      cases i' with
      | zero => cases hv'; simpa using hd
      | succ i' => exact b i' (by omega) v' hv'
namespace E
noncomputable def lst (H : Hp) (x : V) : Option (Nat × List V) := x.asR.bind fun r => (H[r]?.bind O.asL).map fun vs => (r, vs)
noncomputable def dct (H : Hp) (x : V) : Option (Nat × Dct) := x.asR.bind fun r => (H[r]?.bind O.asD).map fun D => (r, D)
/-- a method of a list, with arguments -/
@[simp] noncomputable def lmeth (op : Nat → List V → List V → Hp → Option (V × Hp)) (o : Ex) (xs : List Ex) : Ex := fun m H => (o m H).bind fun p => (lst p.2 p.1).bind fun _ => (evs xs m p.2).bind fun q => (lst q.2 p.1).bind fun l => op l.1 l.2 q.1 q.2
noncomputable def opAppend (r : Nat) (vs Xs : List V) (H : Hp) : Option (V × Hp) := (one? Xs).bind fun X => if vs.length < big then some (.none, H.set r (.list (vs ++ [X]))) else none
noncomputable def opPop (r : Nat) (vs Xs : List V) (H : Hp) : Option (V × Hp) := match Xs with
  | [] => vs.getLast?.map fun X => (X, H.set r (.list vs.dropLast))
  | _ => ((one? Xs).bind V.asI).bind fun k => if 0 ≤ k then vs[k.toNat]?.map fun X => (X, H.set r (.list (vs.eraseIdx k.toNat))) else none
noncomputable def opRev (r : Nat) (vs Xs : List V) (H : Hp) : Option (V × Hp) := match Xs with
  | [] => some (.none, H.set r (.list vs.reverse))
  | _ => none
noncomputable def opIndex (_ : Nat) (vs Xs : List V) (H : Hp) : Option (V × Hp) := (one? Xs).bind fun X => if flat X = true ∧ flatsN 8 vs = true then (ixOf X vs).map fun (j : Nat) => (.int (j : Int), H) else none
@[simp] noncomputable def dget (o k d : Ex) : Ex := fun m H => (o m H).bind fun p => (dct p.2 p.1).bind fun _ => (evs [k, d] m p.2).bind fun q => (dct q.2 p.1).bind fun l => match q.1 with
  | [K, X] => (l.2.get K).map fun y => (y.getD X, q.2)
  | _ => none
noncomputable def inst (c : Addr) (f : String) (H : Hp) (o : V) : Option Nat := (o.asN c H).bind fun p => if p.2.lookup f = none then some p.1 else none
@[simp] noncomputable def meth (c : Addr) (f : String) (fn : Fn) (o : Ex) (xs : List Ex) : Ex := fun m H => (o m H).bind fun p => (inst c f p.2 p.1).bind fun r => (evs xs m p.2).bind fun q => fn (.ref r :: q.1) q.2
end E
theorem lst_some {H : Hp} {v : V} {p : Nat × List V} (h : E.lst H v = some p) : v = .ref p.1 ∧ H[p.1]? = some (.list p.2) := by
  obtain ⟨r, e, h⟩ := Option.bind_eq_some_iff.mp h
  obtain ⟨vs, h2, e3⟩ := Option.map_eq_some_iff.mp h
  obtain ⟨o, e2, h5⟩ := Option.bind_eq_some_iff.mp h2
  subst e3
  exact ⟨V.asR_some e, O.asL_some h5 ▸ e2⟩
theorem dct_some {H : Hp} {v : V} {p : Nat × Dct} (h : E.dct H v = some p) : v = .ref p.1 ∧ H[p.1]? = some (.dict p.2) := by
  obtain ⟨r, e, h⟩ := Option.bind_eq_some_iff.mp h
  obtain ⟨vs, h2, e3⟩ := Option.map_eq_some_iff.mp h
  obtain ⟨o, e2, h5⟩ := Option.bind_eq_some_iff.mp h2
  subst e3
  exact ⟨V.asR_some e, O.asD_some h5 ▸ e2⟩
theorem lst_ref {H : Hp} {r : Nat} {vs : List V} (h : H[r]? = some (.list vs)) : E.lst H (.ref r) = some (r, vs) := by
  show (H[r]?.bind O.asL).map _ = _
  rw [h]; rfl
theorem dct_ref {H : Hp} {r : Nat} {D : Dct} (h : H[r]? = some (.dict D)) : E.dct H (.ref r) = some (r, D) := by
  show (H[r]?.bind O.asD).map _ = _
  rw [h]; rfl
theorem inst_some {c : Addr} {f : String} {H : Hp} {v : V} {r : Nat} (h : E.inst c f H v = some r) : v = .ref r ∧ ∃ fs, H[r]? = some (.inst c fs) ∧ fs.lookup f = none := by
  obtain ⟨p, e, h⟩ := Option.bind_eq_some_iff.mp h
  obtain ⟨hl, rfl⟩ := if_of h
  obtain ⟨a, b⟩ := V.asN_some e
  exact ⟨a, _, b, hl⟩
section
variable {C : Cx} {μ : List Sl} {A : Around} {s : Shared} {H : Hp} {k : Nat} {nm : List (Str × NameKind)}
/-- a method of a list keeps to its op -/
noncomputable def LMeth (C : Cx) (id : String) (op : Nat → List V → List V → Hp → Option (V × Hp)) : Prop :=
  ∀ (A : Around) (k : Nat) (s : Shared) (μ : List Sl) (H H' : Hp) (rr : Nat) (vs : List V) (Xs : List V) (xs : List Value) (sl : Sl) (X : V), Room A k → C.HR μ s.heap H → H[rr]? = some (.list vs) → μ[rr]? = some sl → C.VRs μ s.heap Xs xs → op rr vs Xs H = some (X, H') →
    C.wp A (call (.builtin id) (.ref sl.a :: xs)) (fun v s' => ∃ μ', C.Stp μ noW s μ' s' H' ∧ C.VR μ' s'.heap X v) s
theorem SimE.lmeth {eo : Expr} {name : Str} {apos pos : Pos} {es : List Expr} {o : Ex} {fs : List Ex} {id : String} {op : Nat → List V → List V → Hp → Option (V × Hp)} (ho : SimE C k nm eo o) (hA : SimA C k nm es fs)
    (slot : Slot "list" name id) (hty : typeOf (.builtin id) = pure (.type "method_descriptor")) (hop : LMeth C id op)
    (hb : ∀ env, attributeBase eo name env (eval eo env) = eval eo env) (hlen : Nat.blt es.length 29 = true) (hline : (apos.endLine == pos.line) = true) : SimE C k nm (.Call (.Attribute eo name apos) es [] pos) (E.lmeth op o fs) := by
  have hlen : es.length < 29 := Nat.le_of_ble_eq_true hlen
  refine ⟨?_⟩
  intro A env s μ H m r en hn F R X H' hh
  obtain ⟨p, hp, hh⟩ := Option.bind_eq_some_iff.mp hh
  obtain ⟨l0, hl0, hh⟩ := Option.bind_eq_some_iff.mp hh
  obtain ⟨q, hq, hh⟩ := Option.bind_eq_some_iff.mp hh
  obtain ⟨l, hl, hh⟩ := Option.bind_eq_some_iff.mp hh
  obtain ⟨e1, e2⟩ := lst_some hl0
  obtain ⟨e3, e4⟩ := lst_some hl
  have e5 : l0.1 = l.1 := V.ref.inj (e1.symm.trans e3)
  refine callB ho hA (hb env) hlen hline PySem.F.plainAttrs_list slot hty r en hn F R (hp.trans (congrArg some (Prod.ext e1 rfl))) (listTy e2) hq fun sl vs μ1 s1 S1 g r1 => ?_
  rw [e5] at g
  exact wp_mono (hop A k s1 μ1 q.2 H' l.1 l.2 q.1 vs sl X r S1.hr e4 g r1 hh) fun v s2 z => let ⟨μ2, S2, r2⟩ := z; ⟨μ2, S1.trans S2, r2⟩
theorem lm_append : LMeth C "list.append" E.opAppend := by
  intro A k s μ H H' rr vs Xs xs sl X r R e0 e1 rx h
  obtain ⟨Y, hY, h⟩ := Option.bind_eq_some_iff.mp h
  obtain ⟨hz, e⟩ := if_of h
  cases e
  obtain ⟨x, rfl, ry⟩ := one_inv rx hY
  cases lat R e0 e1 with | mk ys n a1 hd r1 z => ?_
  refine append_at a1 (fun h' hs e => ?_) (by rw [List.size_toArray, r1.length]; exact big_line z)
  rw [List.push_toArray] at e
  exact ⟨μ, .set R e1 (.inl rfl) hs (.list e hd ((r1.append (.cons ry .nil)).mono (R.keepT e1 (.inl rfl) hs) (.refl _)) (by rw [List.length_append]; exact hz)) s.toks, .none⟩
theorem erase_last (ys : List Value) : ys.toArray.eraseIdxIfInBounds (ys.toArray.size - 1) = ys.dropLast.toArray := by
  apply Array.toList_inj.mp
  rw [Array.toList_eraseIdxIfInBounds, List.size_toArray, List.dropLast_eq_take]
  simp only [List.eraseIdx_eq_take_drop_succ]
  cases ys with
  | nil => simp
  | cons y ys => simp
theorem getLast_idx {α : Type} {ys : List α} {y : α} (h : ys.getLast? = some y) : ys[ys.length - 1]? = some y := by rw [← List.getLast?_eq_getElem?, h]
theorem lm_pop : LMeth C "list.pop" E.opPop := by
  intro A k s μ H H' rr vs Xs xs sl X r R e0 e1 rx h
  cases lat R e0 e1 with | mk ys n a1 hd r1 z => ?_
  have sz : ys.toArray.size ≤ sizeLine := by rw [List.size_toArray, r1.length]; exact big_line z
  cases Xs with
  | nil =>
    obtain ⟨Y, hY, e⟩ := Option.map_eq_some_iff.mp h
    cases e
    cases rx
    obtain ⟨y, ey, ry⟩ := r1.get (getLast_idx hY)
    refine call_meets PySem.F.slot_list_pop ⟨_, a1, rfl⟩ PySem.F.entry_list_pop (PySem.F.args_list_pop_1 _) (PySem.MeetsSeq.list_pop_last sl.a ys.toArray n y (by rw [List.size_toArray, r1.length, List.getElem?_toArray]; exact ey) sz) ⟨a1, ?_⟩
    have S := listUpd (W := noW) R e1 a1 hd (f := fun xs => xs.eraseIdxIfInBounds (ys.toArray.size - 1)) (ws := ys.dropLast) (erase_last ys) r1.dropLast (by rw [List.length_dropLast]; exact Nat.le_trans (Nat.sub_le _ _) z) s.toks
    exact ⟨μ, S, ry.mono (S.tup0 R) S.pre⟩
  | cons X0 Xs =>
    obtain ⟨kk, hk, h⟩ := Option.bind_eq_some_iff.mp h
    obtain ⟨X1, h1, h2⟩ := Option.bind_eq_some_iff.mp hk
    obtain ⟨x, rfl, rz⟩ := one_inv rx h1
    obtain ⟨t, rfl⟩ := int_inv (V.asI_some h2 ▸ rz)
    by_cases hk0 : 0 ≤ kk
    · rw [if_pos hk0] at h
      obtain ⟨Y, hY, e⟩ := Option.map_eq_some_iff.mp h
      cases e
      obtain ⟨y, ey, ry⟩ := r1.get hY
      have hlt := (List.getElem?_eq_some_iff.mp ey).1
      have hj := big_64 (Nat.le_trans (Nat.le_of_lt (r1.length ▸ hlt)) z)
      have ek := Int.toNat_of_nonneg hk0
      refine call_meets PySem.F.slot_list_pop ⟨_, a1, rfl⟩ PySem.F.entry_list_pop (PySem.F.args_list_pop_2 _ _) (PySem.MeetsSeq.list_pop_at sl.a ys.toArray n kk t kk.toNat y (fitsIndex_of hk0 (by omega)) ?_ ?_ sz) ⟨a1, ?_⟩
      · rw [List.size_toArray]; exact (congrArg (seqIndex? · _) ek.symm).trans (seq_ix hlt)
      · rw [List.getElem?_toArray]; exact ey
      have S := listUpd (W := noW) R e1 a1 hd (f := fun xs => xs.eraseIdxIfInBounds kk.toNat) (ws := ys.eraseIdx kk.toNat) (by apply Array.toList_inj.mp; rw [Array.toList_eraseIdxIfInBounds]) (r1.eraseIdx kk.toNat) (Nat.le_trans (List.length_eraseIdx_le vs kk.toNat) z) s.toks
      exact ⟨μ, S, ry.mono (S.tup0 R) S.pre⟩
    · rw [if_neg hk0] at h; cases h
theorem lm_rev : LMeth C "list.reverse" E.opRev := by
  intro A k s μ H H' rr vs Xs xs sl X r R e0 e1 rx h
  cases lat R e0 e1 with | mk ys n a1 hd r1 z => ?_
  cases Xs with
  | cons => cases h
  | nil =>
    cases h
    cases rx
    refine call_meets PySem.F.slot_list_reverse ⟨_, a1, rfl⟩ PySem.F.entry_list_reverse (PySem.F.args_list_reverse_1 _) (PySem.AutoSeq1.list_reverse_list_0 sl.a ys.toArray n (by rw [List.size_toArray, r1.length]; exact big_line z)) ⟨a1, ?_⟩
    exact ⟨μ, listUpd (W := noW) R e1 a1 hd (f := fun xs => xs.reverse) (ws := ys.reverse) (by rw [List.reverse_toArray]) r1.reverse (by rw [List.length_reverse]; exact z) s.toks, .none⟩
theorem rel_flat {h : Heap} {Vs : List V} {vs : List Value} {n : Nat} (r : C.VRs μ h Vs vs) (hf : flatsN n Vs = true) {i : Nat} {v : Value} (e : vs[i]? = some v) : ∃ V, Vs[i]? = some V ∧ flatN n V = true ∧ ∃ as, Reads h v (toPy V) as := by
  induction Vs generalizing vs i with
  | nil => cases r; cases e
  | cons W Vs ih =>
    cases r with
    | cons a r =>
      simp only [flatsN, Bool.and_eq_true] at hf
      cases i with
      | zero => cases e; exact ⟨W, rfl, hf.1, VR.reads a hf.1⟩
      | succ i => exact ih r hf.2 e
theorem lm_index : LMeth C "list.index" E.opIndex := by
  intro A k s μ H H' rr vs Xs xs sl X r R e0 e1 rx h
  obtain ⟨Y, hY, h⟩ := Option.bind_eq_some_iff.mp h
  obtain ⟨x, rfl, ry⟩ := one_inv rx hY
  have hf : flat Y = true ∧ flatsN 8 vs = true := by
    by_cases c : flat Y = true ∧ flatsN 8 vs = true
    · exact c
    · rw [if_neg c] at h; cases h
  rw [if_pos hf] at h
  obtain ⟨j, hj, e⟩ := Option.map_eq_some_iff.mp h
  cases e
  cases lat R e0 e1 with | mk ys n a1 hd r1 z => ?_
  have hu := r.u
  obtain ⟨as, ra⟩ := VRs.reads r1 hf.2
  obtain ⟨bs, rb⟩ := VR.reads ry hf.1
  obtain ⟨g1, g2⟩ := ixOf_spec hj
  have hm := depth_le (by decide) hf.2 hf.1
  have hjl : j < ys.length := by rw [r1.length]; exact (List.getElem?_eq_some_iff.mp g1).1
  have hjb := big_64 (Nat.le_trans (Nat.le_of_lt (r1.length ▸ hjl)) z)
  have rd : ∀ i v, ys[i]? = some v → ∃ V, vs[i]? = some V ∧ PyData.eqv (SeqAt.readOf s.heap v) (toPy Y) = dec (V = Y) := fun i v hv => by
    obtain ⟨V, a, b, cs, c⟩ := rel_flat r1 hf.2 hv
    exact ⟨V, a, by rw [SeqAt.readOf_eq (lay_flat _ _ b).1 c]; exact dec_iff (eqv_flat b hf.1)⟩
  refine call_meets PySem.F.slot_list_index ⟨_, a1, rfl⟩ PySem.F.entry_list_index (PySem.F.args_list_index_2 _ _)
    (SeqAt.list_indexAt sl.a ys.toArray n none #[] x (fun y => PyData.eqv (SeqAt.readOf s.heap y) (toPy Y)) j hjl (by omega) ?_ ?_) ⟨a1, SeqAt.items_eqAt ra rb (lay_flats _ _ hf.2).1 (lay_flat _ _ hf.1).1 (by show A.units + 1 + _ < _; omega), ⟨μ, .toks R _, .int _ _⟩⟩
  · obtain ⟨V, a, b⟩ := rd j ys[j] (List.getElem?_eq_getElem hjl)
    cases g1.symm.trans a
    rw [List.getElem_toArray, b]
    exact dec_eq_true_iff.mpr rfl
  · intro i hi hij
    obtain ⟨V, a, b⟩ := rd i ys[i] (List.getElem?_eq_getElem hi)
    rw [List.getElem_toArray, b, dec_eq_false_iff]
    exact g2 i hij V a
theorem SimE.dget (G : C.Ok) {eo ek ed : Expr} {apos pos : Pos} {o kk d : Ex} (ho : SimE C k nm eo o) (hk : SimE C k nm ek kk) (hd : SimE C k nm ed d) (s1 : notStar ek = true) (s2 : notStar ed = true)
    (hb : ∀ env, attributeBase eo (Str.ofString "get") env (eval eo env) = eval eo env) (hline : (apos.endLine == pos.line) = true) : SimE C k nm (.Call (.Attribute eo (Str.ofString "get") apos) [ek, ed] [] pos) (E.dget o kk d) := by
  refine ⟨?_⟩
  intro A env s μ H m r en hn F R X H' hh
  obtain ⟨p, hp, hh⟩ := Option.bind_eq_some_iff.mp hh
  obtain ⟨l0, hl0, hh⟩ := Option.bind_eq_some_iff.mp hh
  obtain ⟨q, hq, hh⟩ := Option.bind_eq_some_iff.mp hh
  obtain ⟨l, hl, hh⟩ := Option.bind_eq_some_iff.mp hh
  obtain ⟨e1, e2⟩ := dct_some hl0
  obtain ⟨e3, e4⟩ := dct_some hl
  have e5 : l0.1 = l.1 := V.ref.inj (e1.symm.trans e3)
  refine callB ho (.cons hk s1 (.cons hd s2 .nil)) (hb env) (Nat.lt_of_sub_pos (by exact Nat.succ_pos _)) hline PySem.F.plainAttrs_dict PySem.F.slot_dict_get PySem.F.type_dict_get r en hn F R (hp.trans (congrArg some (Prod.ext e1 rfl))) (dictTy e2) hq fun sl vs μ1 s1 S1 g r1 => ?_
  rw [e5] at g
  obtain ⟨Ks, H2⟩ := q
  cases r1 with
  | nil => cases hh
  | cons rk r1 => cases r1 with
    | nil => cases hh
    | cons rx r1 => cases r1 with
      | cons => cases hh
      | nil =>
        obtain ⟨y, hy, e⟩ := Option.map_eq_some_iff.mp hh
        cases e
        cases dct_inv S1.hr e4 (.ref g) with | mk sl' e6 e7 dr _ => ?_
        cases g.symm.trans e6
        have nm := notMods G S1.hr (a := sl.a) ⟨sl, List.mem_of_getElem? g, .inl rfl⟩
        have hu := r.u
        obtain ⟨gg, og, alt⟩ := dict_ask dr rk hy
        have ov : ∀ {X0 : V} {v0 : Value}, C.VR μ1 s1.heap X0 v0 → C.VR μ1 s1.heap (y.getD X0) (gg.getD v0) := fun {X0 v0} r0 => by
          cases y <;> cases gg <;> first | exact r0 | exact og | exact og.elim
        cases alt with
        | I j f hk mm e => exact call_meetsIn PySem.F.slot_dict_get mm.typeIs PySem.F.entry_dict_get (PySem.F.args_dict_get_3 _ _ _) (meets_dict_get_default _ _ hk nm _) ⟨_, mm, ⟨μ1, S1.trans (.toks S1.hr _), by rw [e]; exact ov rx⟩⟩
        | S j f hk mm e => exact call_meetsIn PySem.F.slot_dict_get mm.typeIs PySem.F.entry_dict_get (PySem.F.args_dict_get_3 _ _ _) (meets_dict_get_default _ _ hk nm _) ⟨_, mm, ⟨μ1, S1.trans (.toks S1.hr _), by rw [e]; exact ov rx⟩⟩
        | T b j xs ek hk mm e =>
          subst ek
          exact call_meetsIn PySem.F.slot_dict_get mm.typeIs PySem.F.entry_dict_get (PySem.F.args_dict_get_3 _ _ _) (meetsH_dict_get_default _ _ _ nm _) ⟨tupleKind_room_in1 (by omega), _, _, hk, mm, ⟨μ1, S1.trans (.toks S1.hr _), by rw [e]; exact ov rx⟩⟩
theorem SimE.meth (G : C.Ok) {eo : Expr} {name : String} {apos pos : Pos} {es : List Expr} {o : Ex} {fs : List Ex} {c fa : Addr} {f : Fn} {k' : Nat} (ho : SimE C k nm eo o) (hA : SimA C k nm es fs)
    (hc : ClsOk C c) (hfn : SimFn C k' fa f) (hf : findIn C.K (.ref c) (Str.ofString name) = some (some (.ref fa))) (ht : typeIn C.K (.ref fa) = some (.type "function")) (hk : keepIn C.K (.ref fa) = true) (hk1 : Nat.ble k' k = true)
    (hb : ∀ env, attributeBase eo (Str.ofString name) env (eval eo env) = eval eo env) (hlen : Nat.blt es.length 29 = true) (hline : (apos.endLine == pos.line) = true) : SimE C k nm (.Call (.Attribute eo (Str.ofString name) apos) es [] pos) (E.meth c name f o fs) := by
  have hlen : es.length < 29 := Nat.le_of_ble_eq_true hlen
  have hkk : k' ≤ k := Nat.le_of_ble_eq_true hk1
  refine ⟨?_⟩
  intro A env s μ H m r en hn F R X H' hh0
  unfold E.meth at hh0
  obtain ⟨p, hp, hh1⟩ := Option.bind_eq_some_iff.mp hh0
  obtain ⟨rr, hrr, hh2⟩ := Option.bind_eq_some_iff.mp hh1
  obtain ⟨q, hq, hh3⟩ := Option.bind_eq_some_iff.mp hh2
  obtain ⟨p1, p2⟩ := p
  obtain ⟨e1, fd, e2, e3⟩ := inst_some hrr
  dsimp only at e1 e2 e3 hq
  subst e1
  refine callO G ho hA (hb env) hlen hline hc hf ht hk r en hn F R hp e2 e3 hq fun sl vs μ1 s1 S1 g r1 => ?_
  refine wpAny_call (codeAny_mono (hfn.r A s1 μ1 q.2 _ _ (r.mono hkk) S1.hr (.cons (.ref g) r1) X H' hh3) fun rr s2 z => ?_)
  obtain ⟨μ2, v, rfl, S2, r2⟩ := z
  exact ⟨μ2, S1.trans S2, r2⟩
end
/-! stores -/
noncomputable def Dct.put (D : Dct) (k X : V) : Option Dct := match k with
  | .int i => D.asI.bind fun p => if p.2 < big then some (.I (fun j => if j = i then some X else p.1 j) (p.2 + 1)) else none
  | .str i => D.asS.bind fun p => if p.2 < big then some (.S (fun j => if j = i then some X else p.1 j) (p.2 + 1)) else none
  | .tup vs => (keyOf vs).bind fun k => D.asT.bind fun p => if p.2 < big then some (.T (fun j => if j = k then some X else p.1 j) (p.2 + 1)) else none
  | _ => none
noncomputable def pos? (k : Int) (n : Nat) : Option Nat := if 0 ≤ k ∧ k < n then some k.toNat else if k < 0 ∧ -(n : Int) ≤ k then some (k + n).toNat else none
noncomputable def putO (i X : V) (o : O) : Option O := match o with
  | .list vs => (i.asI.bind fun k => pos? k vs.length).map fun j => .list (vs.set j X)
  | .dict D => (D.put i X).map .dict
  | _ => none
noncomputable def putI (H : Hp) (o i X : V) : Option Hp := o.asR.bind fun r => (H[r]?.bind (putO i X)).map fun o => H.set r o
section
variable {C : Cx} {μ : List Sl} {A : Around} {s : Shared} {H : Hp} {k : Nat} {nm : List (Str × NameKind)}
theorem find_new {K : Type} [DecidableEq K] (kvs : List (K × Value)) (k : K) (v : Value) (j : K) : valueAt (stored kvs k v) j = if j = k then some v else valueAt kvs j := by
  unfold stored
  split
  · rename_i h
    induction kvs with
    | nil => simp at h
    | cons kv kvs ih =>
      simp only [valueAt, List.map_cons, List.find?_cons] at ih ⊢
      by_cases hk : kv.1 = k
      · rw [if_pos hk]
        by_cases hj : j = k
        · simp [hk, hj]
        · have h1 : ¬ kv.1 = j := fun e => hj (by rw [← e, hk])
          simp only [h1, decide_false, hj, if_false]
          by_cases ha : kvs.any (fun kv => decide (kv.1 = k)) = true
          · have := ih ha
            rw [if_neg hj] at this
            exact this
          · have hmap : kvs.map (fun kv => if kv.1 = k then (kv.1, v) else kv) = kvs := map_store_of_not_mem kvs k v fun e => by
              obtain ⟨x, hx, e⟩ := List.mem_map.mp e
              exact ha (List.any_eq_true.mpr ⟨x, hx, by simp [e]⟩)
            rw [hmap]
      · rw [if_neg hk]
        have ha : kvs.any (fun kv => decide (kv.1 = k)) = true := by simpa [hk] using h
        have := ih ha
        by_cases hkj : kv.1 = j
        · have hj : ¬ j = k := fun e => hk (hkj.trans e)
          simp [hkj, hj]
        · simp only [hkj, decide_false]
          exact this
  · rename_i h
    have h' : ∀ kv ∈ kvs, ¬ kv.1 = k := fun kv hkv e => h (List.any_eq_true.mpr ⟨kv, hkv, by simp [e]⟩)
    simp only [valueAt, List.find?_append]
    by_cases hj : j = k
    · subst hj
      have : kvs.find? (fun kv => decide (kv.1 = j)) = none := by
        rw [List.find?_eq_none]; intro x hx; simpa using h' x hx
      rw [this]; simp
    · rw [if_neg hj]
      have : ¬ k = j := fun e => hj e.symm
      cases kvs.find? (fun kv => decide (kv.1 = j)) <;> simp [this]
theorem stored_length {K : Type} [DecidableEq K] (kvs : List (K × Value)) (k : K) (v : Value) : (stored kvs k v).length ≤ kvs.length + 1 := by
  unfold stored
  split <;> simp
theorem find_newH {K : Type} [DecidableEq K] (xs : List (K × Addr × Value)) (k : K) (a : Addr) (v : Value) (j : K) : (atKey (storedH xs k a v) j).map (·.2) = if j = k then some v else (atKey xs j).map (·.2) := by
  unfold storedH
  split
  · rename_i h
    induction xs with
    | nil => simp [atKey] at h
    | cons kv kvs ih =>
      simp only [atKey, List.map_cons, List.find?_cons] at ih h ⊢
      by_cases hk : kv.1 = k
      · by_cases hj : j = k
        · simp [putAt, hk, hj]
        · have h1 : ¬ kv.1 = j := fun e => hj (by rw [← e, hk])
          have h2 : ¬ k = j := fun e => hj e.symm
          simp only [putAt, hk, if_true, h2, decide_false, hj, if_false]
          by_cases ha : ((kvs.find? fun x => decide (x.1 = k)).map (·.2)).isSome = true
          · have := ih ha
            rw [if_neg hj] at this
            exact this
          · have hmap : kvs.map (putAt k v) = kvs := map_putAt_of_not_mem kvs k v fun e => by
              obtain ⟨x, hx, e⟩ := List.mem_map.mp e
              apply ha
              rw [Option.isSome_map]
              cases hf : kvs.find? fun x => decide (x.1 = k) with
              | none => rw [List.find?_eq_none] at hf; exact absurd (by simp [e]) (hf x hx)
              | some _ => rfl
            rw [hmap]
      · have ha : ((kvs.find? fun x => decide (x.1 = k)).map (·.2)).isSome = true := by simpa [hk] using h
        have := ih ha
        by_cases hkj : kv.1 = j
        · have hj : ¬ j = k := fun e => hk (hkj.trans e)
          subst hkj
          simp [putAt, hk]
        · have e1 : putAt k v kv = kv := by unfold putAt; rw [if_neg hk]
          rw [e1]
          simp only [hkj, decide_false]
          exact this
  · rename_i h
    have h' : xs.find? (fun x => decide (x.1 = k)) = none := by
      simp only [atKey, Option.isSome_map] at h
      cases hf : xs.find? fun x => decide (x.1 = k) with
      | none => rfl
      | some _ => rw [hf] at h; exact absurd rfl h
    simp only [atKey, List.find?_append]
    by_cases hj : j = k
    · subst hj
      rw [h']; simp
    · rw [if_neg hj]
      have : ¬ k = j := fun e => hj e.symm
      cases xs.find? (fun x => decide (x.1 = j)) <;> simp [this]
theorem storedH_length {K : Type} [DecidableEq K] (xs : List (K × Addr × Value)) (k : K) (a : Addr) (v : Value) : (storedH xs k a v).length ≤ xs.length + 1 := by
  unfold storedH
  split <;> simp
theorem storedH_tups {h : Heap} {xs : List (List Int × Addr × Value)} {k : List Int} {a : Addr} {v : Value} (t : ∀ x ∈ xs, ∃ vs, h.get? x.2.1 = some (tupObj vs)) (ha : ∃ vs, h.get? a = some (tupObj vs)) : ∀ x ∈ storedH xs k a v, ∃ vs, h.get? x.2.1 = some (tupObj vs) := by
  unfold storedH
  split
  · intro x hx
    obtain ⟨y, hy, rfl⟩ := List.mem_map.mp hx
    unfold putAt
    split <;> exact t y hy
  · intro x hx
    rcases List.mem_append.mp hx with hx | hx
    · exact t x hx
    · rw [List.mem_singleton] at hx; subst hx; exact ha
theorem OptR.if {h : Heap} {p q : Prop} [Decidable p] [Decidable q] (hpq : p ↔ q) {X Y : Option V} {v u : Option Value} (a : OptR C.h0 μ h X v) (b : OptR C.h0 μ h Y u) : OptR C.h0 μ h (if p then X else Y) (if q then v else u) := by
  by_cases hp : p
  · rw [if_pos hp, if_pos (hpq.mp hp)]; exact a
  · rw [if_neg hp, if_neg fun e => hp (hpq.mpr e)]; exact b
/-- a store into a list, by a place or from the end -/
theorem put_at {l : Addr} {items : Array Value} {n : Nat} {k : Int} {j : Nat} {t : Tok} {v : Value} {prog : Program} {w : World} {E : Value → Shared → Prop} {Q : Unit → Shared → Prop} (ho : s.heap.get? l = some (listOf items n)) (hj : j < items.size)
    (hk : (k = (j : Int) ∧ j < 2 ^ 62) ∨ (k < 0 ∧ -(2 ^ 63) ≤ k ∧ seqIndex? k items.size = some j)) (hQ : Q () { s with heap := s.heap.update l (Obj.mapSeq (·.setIfInBounds j v)) }) : wpAny (model prog w) A (setItem (.ref l) (.int k t) v) Q E s := by
  have hl : s.heap.IsList l items := PySem.IsL.isList (n := n) ho
  have hx : items[j]? = some items[j] := Array.getElem?_eq_getElem hj
  have out : ∀ A', wpAny (model prog w) A' (setSeqItemAt l j v) (fun _ s' => Q () s') E s := fun _ => wpAny_setSeqItemAt ho rfl hQ
  unfold setItem
  try with_reducible refine wpAny_holding ?_
  refine wpAny_bind (wpAny_sequenceKey hl.typeIs (by decide) ?_)
  refine (wpAny_bind (wpAny_callSpecial?_slot (name := Str.ofString "__setitem__") hl.typeIs slot_list_setitem (wpAny_call_entry slot_list_setitem hl.typeIs entry_list_setitem ?_ (args_list_setitem _ _ _))))
  have fit : Builtin.List.listFitsIndex k = true := by
    rcases hk with ⟨rfl, hb⟩ | ⟨a, b, _⟩
    · exact fitsIndex_of (Int.natCast_nonneg j) (Int.lt_trans (Int.ofNat_lt.mpr hb) (by decide))
    · exact fitsIndex_neg a b
  show wpAny _ _ (Builtin.List.listSubscript? (.int k t) >>= _) _ _ s
  refine wpAny_bind (wpAny_listSubscript_int fit ?_)
  clear fit
  rcases hk with ⟨rfl, _⟩ | ⟨a, _, e⟩
  · show wpAny _ _ ((seqItemAt l j >>= fun r => pure (r.map (j, ·))) >>= _) _ _ s
    refine wpAny_bind (wpAny_bind (wpAny_seqItemAt ho rfl (wpAny_pure ?_)))
    rw [hx]
    exact wpAny_bind (wpAny_mono (out _) (fun _ _ q => wpAny_pure ⟨.none, rfl, wpAny_pure q⟩) fun _ _ x => x)
  · obtain ⟨i, rfl⟩ : ∃ i : Nat, k = Int.negSucc i := by
      cases k with
      | ofNat m => exact absurd a (Int.not_lt.mpr (Int.natCast_nonneg m))
      | negSucc m => exact ⟨m, rfl⟩
    show wpAny _ _ ((Builtin.List.listItems (.ref l) >>= fun xs => pure ((seqIndex? (Int.negSucc i) xs.size).bind fun i => xs[i]?.map (i, ·))) >>= _) _ _ s
    refine wpAny_bind (wpAny_bind (wpAny_bind (wpAny_seqItems ho rfl (wpAny_pure (wpAny_pure ?_)))))
    rw [e, Option.bind_some, hx, Option.map_some]
    exact wpAny_bind (wpAny_mono (out _) (fun _ _ q => wpAny_pure ⟨.none, rfl, wpAny_pure q⟩) fun _ _ x => x)
theorem pos_some {k : Int} {n j : Nat} (h : pos? k n = some j) (z : n ≤ big) : j < n ∧ ((k = (j : Int) ∧ j < 2 ^ 62) ∨ (k < 0 ∧ -(2 ^ 63) ≤ k ∧ seqIndex? k n = some j)) := by
  have z := big_64 z
  unfold pos? at h
  by_cases c : 0 ≤ k ∧ k < n
  · rw [if_pos c] at h; cases h; omega
  · rw [if_neg c] at h
    obtain ⟨hc, rfl⟩ := if_of h
    exact ⟨by omega, .inr ⟨hc.1, by omega, PySem.seqIndex_neg hc.1 hc.2⟩⟩
theorem putL_sim {i : Nat} {k : Int} {t : Tok} {vs : List V} {u v : Value} {X : V} {j : Nat} {Q : Unit → Shared → Prop} (R : C.HR μ s.heap H) (l : VLst C μ s.heap i vs u) (hv : C.VR μ s.heap X v) (h : pos? k vs.length = some j) (q : ∀ s', C.Stp μ noW s μ s' (H.set i (.list (vs.set j X))) → Q () s') : C.wp A (setItem u (.int k t) v) Q s := by
  cases l with | mk sl ys n e1 eu a1 hd r1 z => ?_
  subst eu
  obtain ⟨hj, hk⟩ := pos_some h z
  rw [← r1.length] at hj hk
  exact put_at (j := j) a1 (by rw [List.size_toArray]; exact hj) (by rw [List.size_toArray]; exact hk) (q _ (listUpd R e1 a1 hd (ws := ys.set j v) (by rw [List.setIfInBounds_toArray]) (r1.set j hv) (by rw [List.length_set]; exact z) s.toks))
theorem OptR.put {K J : Type} [DecidableEq K] [DecidableEq J] {h h' : Heap} {k j : K} {k' j' : J} {X : V} {v : Value} {Y : Option V} {u : Option Value} (T : TupKeep h h') (e : j = k ↔ j' = k') (a : C.VR μ h X v) (b : OptR C.h0 μ h Y u) : OptR C.h0 μ h' (if j = k then some X else Y) (if j' = k' then some v else u) :=
  (OptR.if (C := C) e (X := some X) (v := some v) a b).mono T (.refl _)
theorem str_iff {a b : String} : a = b ↔ Str.ofString a = Str.ofString b := ⟨fun e => by rw [e], ofString_inj⟩
theorem putD_sim {i : Nat} {D D' : Dct} {K X : V} {u kv v : Value} {Q : Unit → Shared → Prop} (hu : A.units + 100 < cLine) (R : C.HR μ s.heap H) (l : VDct C μ s.heap i D u) (hi : C.VR μ s.heap K kv) (hv : C.VR μ s.heap X v) (h : D.put K X = some D') (q : ∀ s', C.Stp μ noW s μ s' (H.set i (.dict D')) → Q () s') : C.wp A (setItem u kv v) Q s := by
  cases l with | mk sl e1 eu dr hd => ?_
  subst eu
  have fin : ∀ h' tk, Heap.SameBut sl.a s.heap h' → DR C.prog C.w C.h0 μ h' sl.a D' → Q () { s with heap := h', toks := tk } := fun h' tk hs d' => q _ (.set R e1 (.inl rfl) hs (.dict d' hd) tk)
  have T : ∀ {h'}, Heap.SameBut sl.a s.heap h' → TupKeep s.heap h' := fun hs => R.keepT e1 (.inl rfl) hs
  have le : ∀ {a b : Nat}, a ≤ b → b < big → a ≤ sizeLine := fun x y => big_line (Nat.le_trans x (Nat.le_of_lt y))
  clear q R
  cases K with
  | int i =>
    obtain ⟨p, e, h⟩ := Option.bind_eq_some_iff.mp h
    obtain ⟨hn, rfl⟩ := if_of h
    obtain ⟨t, rfl⟩ := int_inv hi
    cases dr_I dr e with | mk kvs m l rr z => ?_
    exact wpAny_setItem_pairs (isInt_is i t) m (fun h' d' hs => fin h' _ hs (.I d' (Nat.le_trans (stored_length _ _ _) (Nat.succ_le_succ l)) (fun j => by rw [find_new]; exact OptR.put (T hs) Iff.rfl hv (rr j)) hn)) (le l hn)
  | str i =>
    obtain ⟨p, e, h⟩ := Option.bind_eq_some_iff.mp h
    obtain ⟨hn, rfl⟩ := if_of h
    obtain ⟨t, rfl⟩ := str_inv hi
    cases dr_S dr e with | mk kvs m l rr z => ?_
    exact wpAny_setItem_pairs (isStr_is i t) m (fun h' d' hs => fin h' _ hs (.S d' (Nat.le_trans (stored_length _ _ _) (Nat.succ_le_succ l)) (fun j => by rw [find_new]; exact OptR.put (T hs) str_iff hv (rr j)) hn)) (le l hn)
  | tup vs =>
    obtain ⟨kk, ek, h⟩ := Option.bind_eq_some_iff.mp h
    obtain ⟨p, e, h⟩ := Option.bind_eq_some_iff.mp h
    obtain ⟨hn, rfl⟩ := if_of h
    cases key_T hi ek with | mk b ys eb g hb => ?_
    subst eb
    cases dr_T dr e with | mk xs m l t rr z => ?_
    exact wpAny_setItem_heap (tupleKind_room_in1 (by omega)) hb m (fun h' d' hs => fin h' _ hs (.T d' (Nat.le_trans (storedH_length _ _ _ _) (Nat.succ_le_succ l)) (storedH_tups (fun x hx => let ⟨zs, ez⟩ := t x hx; ⟨zs, T hs _ _ ez⟩) ⟨ys, T hs _ _ g⟩) (fun j => by rw [find_newH]; exact OptR.put (T hs) Iff.rfl hv (rr j)) hn)) (le l hn)
  | _ => cases h
theorem putI_sim (G : C.Ok) {o i X : V} {ov iv v : Value} {H' : Hp} (r : Room A k) (R : C.HR μ s.heap H) (ho : C.VR μ s.heap o ov) (hi : C.VR μ s.heap i iv) (hv : C.VR μ s.heap X v) (h : putI H o i X = some H')
    {Q : Unit → Shared → Prop} (q : ∀ s', C.Stp μ noW s μ s' H' → Q () s') : C.wp A (setItem ov iv v) Q s := by
  obtain ⟨rr, er, h⟩ := Option.bind_eq_some_iff.mp h
  obtain ⟨o', h2, rfl⟩ := Option.map_eq_some_iff.mp h
  obtain ⟨ob, e0, h3⟩ := Option.bind_eq_some_iff.mp h2
  have ho := V.asR_some er ▸ ho
  cases ob with
  | list vs =>
    obtain ⟨j, hj, rfl⟩ := Option.map_eq_some_iff.mp h3
    obtain ⟨kk, ei, hp⟩ := Option.bind_eq_some_iff.mp hj
    obtain ⟨t, rfl⟩ := int_inv (V.asI_some ei ▸ hi)
    exact putL_sim R (lst_inv R e0 ho) hv hp q
  | dict D =>
    obtain ⟨D', hD, rfl⟩ := Option.map_eq_some_iff.mp h3
    exact putD_sim r.u R (dct_inv R e0 ho) hi hv hD q
  | inst => cases h3
end
/-! statements -/
namespace S
@[simp] noncomputable def asg (x : String) (e : Ex) : Sx := fun m H => (e m H).map fun p => (.next, upd m x p.1, p.2)
@[simp] noncomputable def asgAttr (c : Addr) (f : String) (o e : Ex) : Sx := fun m H => (e m H).bind fun p => (o m p.2).bind fun q => (E.setF c f p.1 q.2 q.1).map fun H' => (.next, m, H')
@[simp] noncomputable def asgItem (o i e : Ex) : Sx := fun m H => (e m H).bind fun p => (o m p.2).bind fun q => (i m q.2).bind fun t => (putI t.2 q.1 t.1 p.1).map fun H' => (.next, m, H')
/-- x += e, of ints -/
@[simp] noncomputable def inc (x : String) (e : Ex) : Sx := fun m H => (m x).bind fun X => (e m H).bind fun p => (int2 X p.1).map fun q => (.next, upd m x (.int (q.1 + q.2)), p.2)
@[simp] noncomputable def iff (t : Tx) (a b : Sx) : Sx := fun m H => (t m H).bind fun p => match p.1 with
  | true => a m p.2
  | false => b m p.2
@[simp] noncomputable def ret (e : Ex) : Sx := fun m H => (e m H).map fun p => (.ret p.1, m, p.2)
@[simp] noncomputable def expr (e : Ex) : Sx := fun m H => (e m H).map fun p => (.next, m, p.2)
@[simp] noncomputable def cont : Sx := fun m H => some (.cont, m, H)
@[simp] noncomputable def fail : Sx := fun _ _ => none
@[simp] noncomputable def nil : Sx := fun m H => some (.next, m, H)
@[simp] noncomputable def seq (a b : Sx) : Sx := fun m H => (a m H).bind fun p => match p.1 with
  | .next => b p.2.1 p.2.2
  | f => some (f, p.2.1, p.2.2)
/-- while, with as many turns as are given -/
noncomputable def whl (t : Tx) (b : Sx) : Nat → Sx
  | 0, _, _ => none
  | n + 1, m, H => (t m H).bind fun p => match p.1 with
    | false => some (.next, m, p.2)
    | true => (b m p.2).bind fun q => match q.1 with
      | .ret v => some (.ret v, q.2.1, q.2.2)
      | _ => whl t b n q.2.1 q.2.2
end S
section
variable {C : Cx} {μ : List Sl} {A : Around} {s : Shared} {H : Hp} {k : Nat} {nm : List (Str × NameKind)}
theorem EnvOk.hp {env : Env} (e : EnvOk env) : (env.scope.kind == .class || (env.scope.kind == .module && env.locals != env.globals)) = false := by rw [e.kind]; rfl
theorem store_local {env : Env} {m : Loc} {x : String} {X : V} {v : Value} {Q : Unit → Shared → Prop} (e : EnvOk env) (hk : env.kindOf (Str.ofString x) = some .local) (F : FR C env μ s.heap m) (R : C.HR μ s.heap H) (hv : C.VR μ s.heap X v)
    (q : ∀ s', C.Stp μ (FA env) s μ s' H → FR C env μ s'.heap (upd m x X) → Q () s') : C.wp A (storeName env (Str.ofString x) v) Q s := by
  obtain ⟨ml, ns, r0⟩ := F.ns
  refine wpAny_storeName_local hk ns (fun h' ns' hs => q _ ?_ ?_) e.hp
  · have lo := F.low env.locals (.inl rfl)
    have T : TupKeep s.heap h' := fun a o q => (hs.2 a fun z => F.notTup (.inl z) q).trans q
    refine ⟨rfl, .refl _, ⟨fun b o eb => (hs.2 b fun z => ?_).trans (R.base b o eb), by rw [hs.1]; exact R.bsz, R.len, R.low, R.apart, fun i sl o ei eo => ?_⟩, fun a o ea n w => (hs.2 a fun z => w (.inl z)).trans ea, fun _ m => .inl m, by rw [hs.1]; exact Nat.le_refl _⟩
    · exact lt_no (Heap.lt_size eb) (z ▸ lo.1)
    · have mem := List.mem_of_getElem? ei
      refine (R.objs i sl o ei eo).mono T (.refl _) (fun o q => (hs.2 _ fun z => lo.2 ?_).trans q) fun o q => (hs.2 _ fun z => lo.2 ?_).trans q
      · exact z ▸ ⟨sl, mem, .inl rfl⟩
      · exact z ▸ ⟨sl, mem, .inr rfl⟩
  · exact F.setLocal R hk hs ns' r0 hv
theorem store_cell {env : Env} {m : Loc} {x : String} {X : V} {v : Value} {Q : Unit → Shared → Prop} (e : EnvOk env) (hk : env.kindOf (Str.ofString x) = some .cell) (F : FR C env μ s.heap m) (R : C.HR μ s.heap H) (hv : C.VR μ s.heap X v)
    (q : ∀ s', C.Stp μ (FA env) s μ s' H → FR C env μ s'.heap (upd m x X) → Q () s') : C.wp A (storeName env (Str.ofString x) v) Q s := by
  obtain ⟨c, hc⟩ := F.has _ hk
  have fa : FA env c := .inr ⟨_, mem_of_lookup hc⟩
  obtain ⟨v0, c0⟩ := F.ex _ c (mem_of_lookup hc)
  refine wpAny_storeName_cell e.kind hk hc c0 (fun h' c1 hs => q _ ?_ ?_)
  · have lo := F.low c fa
    have T : TupKeep s.heap h' := fun a o q => (hs.2 a fun z => F.notTup (z ▸ fa) q).trans q
    refine ⟨rfl, .refl _, ⟨fun b o eb => (hs.2 b fun z => ?_).trans (R.base b o eb), by rw [hs.1]; exact R.bsz, R.len, R.low, R.apart, fun i sl o ei eo => ?_⟩, fun a o ea n w => (hs.2 a fun z => w (z ▸ fa)).trans ea, fun _ m => .inl m, by rw [hs.1]; exact Nat.le_refl _⟩
    · exact lt_no (Heap.lt_size eb) (z ▸ lo.1)
    · have mem := List.mem_of_getElem? ei
      refine (R.objs i sl o ei eo).mono T (.refl _) (fun o q => (hs.2 _ fun z => lo.2 ?_).trans q) fun o q => (hs.2 _ fun z => lo.2 ?_).trans q
      · exact z ▸ ⟨sl, mem, .inl rfl⟩
      · exact z ▸ ⟨sl, mem, .inr rfl⟩
  · exact F.setCell R hk hc hs c1 hv
/-- a name that can be stored -/
noncomputable def Own (nm : List (Str × NameKind)) (x : String) : Prop := nm.lookup (Str.ofString x) = some .local ∨ nm.lookup (Str.ofString x) = some .cell
theorem store {env : Env} {m : Loc} {x : String} {X : V} {v : Value} {Q : Unit → Shared → Prop} (e : EnvOk env) (hn : env.scope.names = nm) (hk : Own nm x) (F : FR C env μ s.heap m) (R : C.HR μ s.heap H) (hv : C.VR μ s.heap X v)
    (q : ∀ s', C.Stp μ (FA env) s μ s' H → FR C env μ s'.heap (upd m x X) → Q () s') : C.wp A (storeName env (Str.ofString x) v) Q s := by
  rcases hk with hk | hk
  · exact store_local e (by rw [kindOf_nm hn, hk]) F R hv q
  · exact store_cell e (by rw [kindOf_nm hn, hk]) F R hv q
theorem SimS.asg {x : String} {p pos : Pos} {ev : Expr} {e : Ex} (he : SimE C k nm ev e) (hk : Own nm x) (hs : ∀ env : Env, env.scope.names = nm → swapsWith ev (some (.Name (Str.ofString x) p)) pos.line env = pure false) : SimS C k nm (.Assign [.Name (Str.ofString x) p] ev pos) (S.asg x e) := by
  refine ⟨?_⟩
  intro A env s μ H m r en hn F R fl m' H' hf
  unfold S.asg at hf
  obtain ⟨q, hq, hf⟩ := Option.map_eq_some_iff.mp hf
  cases hf
  refine wpAny_Assign_Name (wp_mono (he.r A env s μ H m r en hn F R _ _ hq) fun v s1 z => ?_) (hs env hn)
  obtain ⟨μ1, S1, r1⟩ := z
  exact store en hn hk (F.stp R S1) S1.hr r1 fun s2 S2 F2 => ⟨μ1, S1.weak0.trans S2, F2, trivial⟩
theorem SimS.asgAttr (G : C.Ok) {c : Addr} {f : String} {p pos : Pos} {eo ev : Expr} {o e : Ex} (hc : ClsOk C c) (he : SimE C k nm ev e) (ho : SimE C k nm eo o)
    (hf : findIn C.K (.ref c) (Str.ofString f) = some none) (hs : ∀ env, swapsWith ev (some (.Attribute eo (Str.ofString f) p)) pos.line env = pure false) : SimS C k nm (.Assign [.Attribute eo (Str.ofString f) p] ev pos) (S.asgAttr c f o e) := by
  refine ⟨?_⟩
  intro A env s μ H m r en hn F R fl m' H' h
  obtain ⟨q, hq, h⟩ := Option.bind_eq_some_iff.mp h
  obtain ⟨t, ht, h⟩ := Option.bind_eq_some_iff.mp h
  obtain ⟨H2, hH, h⟩ := Option.map_eq_some_iff.mp h
  cases h
  exact plainObj_wpAny_Assign_Attribute (he.pair ho r en hn F R hq ht fun v v2 s2 μ2 S r1 r2 => setAttr_sim G hc hf S.hr r2 r1 hH fun s3 S3 => ⟨μ2, (S.trans S3).weak0, F.stp R (S.trans S3), trivial⟩) (hs env)
theorem SimS.asgItem (G : C.Ok) {p pos : Pos} {eo ei ev : Expr} {o i e : Ex} (he : SimE C k nm ev e) (ho : SimE C k nm eo o) (hi : SimE C k nm ei i)
    (hs : ∀ env, swapsWith ev (some (.Subscript eo ei p)) pos.line env = pure false) : SimS C k nm (.Assign [.Subscript eo ei p] ev pos) (S.asgItem o i e) := by
  refine ⟨?_⟩
  intro A env s μ H m r en hn F R fl m' H' h
  obtain ⟨q, hq, h⟩ := Option.bind_eq_some_iff.mp h
  obtain ⟨t, ht, h⟩ := Option.bind_eq_some_iff.mp h
  obtain ⟨u, hu, h⟩ := Option.bind_eq_some_iff.mp h
  obtain ⟨H2, hH, h⟩ := Option.map_eq_some_iff.mp h
  cases h
  refine wpAny_Assign_Subscript (he.pair ho r en hn F R hq ht fun v v2 s2 μ2 S r1 r2 => wp_mono (hi.r A env s2 μ2 _ m r en hn (F.stp R S) S.hr _ _ hu) fun v3 s3 z => ?_) (hs env)
  obtain ⟨μ3, S3, r3⟩ := z
  have T := S3.tup0 S.hr
  exact putI_sim G r S3.hr (r2.mono T S3.pre) r3 (r1.mono T S3.pre) hH fun s4 S4 => ⟨μ3, ((S.trans S3).trans S4).weak0, F.stp R ((S.trans S3).trans S4), trivial⟩
theorem SimS.inc {x : String} {p pos : Pos} {ev : Expr} {e : Ex} (he : SimE C k nm ev e) (hk : nm.lookup (Str.ofString x) = some .local) : SimS C k nm (.AugAssign (.Name (Str.ofString x) p) .Add ev pos) (S.inc x e) := by
  refine ⟨?_⟩
  intro A env s μ H m r en hn F R fl m' H' h
  obtain ⟨X, hX, h⟩ := Option.bind_eq_some_iff.mp h
  obtain ⟨q, hq, h⟩ := Option.bind_eq_some_iff.mp h
  obtain ⟨p, hp, h⟩ := Option.map_eq_some_iff.mp h
  cases h
  obtain ⟨eX, eq⟩ := int2_some hp
  have hk' : env.kindOf (Str.ofString x) = some .local := by rw [kindOf_nm hn, hk]
  obtain ⟨ml, ns, qq⟩ := F.ns
  obtain ⟨v0, ea, ra⟩ := qq x _ hX hk'
  obtain ⟨t0, rfl⟩ := int_inv (eX ▸ ra)
  refine wpAny_AugAssign_Name (wpAny_loadName_local en.kind hk' ns ea (wp_mono (he.r A env s μ H m r en hn F R _ _ hq) fun v s1 z => ?_))
  obtain ⟨μ1, S1, r1⟩ := z
  obtain ⟨t1, rfl⟩ := int_inv (eq ▸ r1)
  refine PyProof.Rows.iadd_int ?_
  have S2 : C.Stp μ1 noW s1 μ1 { s1 with toks := s1.toks + 1 } q.2 := .toks S1.hr _
  exact store en hn (.inl hk) (F.stp R (S1.trans S2)) S2.hr (.int _ _) fun s3 S3 F3 => ⟨μ1, (S1.trans S2).weak0.trans S3, F3, trivial⟩
theorem SimS.ret {pos : Pos} {ev : Expr} {e : Ex} (he : SimE C k nm ev e) : SimS C k nm (.Return (some ev) pos) (S.ret e) := by
  refine ⟨?_⟩
  intro A env s μ H m r en hn F R fl m' H' hf
  unfold S.ret at hf
  obtain ⟨q, hq, hf⟩ := Option.map_eq_some_iff.mp hf
  cases hf
  refine wpAny_Return_some (wp_mono (he.r A env s μ H m r en hn F R _ _ hq) fun v s1 z => ?_)
  obtain ⟨μ1, S1, r1⟩ := z
  exact ⟨μ1, S1.weak0, F.stp R S1, r1⟩
theorem SimE.none {n : Nat} {pos : Pos} : SimE C k nm (.Constant .none n pos) (E.const .none) := by
  refine ⟨?_⟩
  intro A env s μ H m r e hn F R Y H' hf
  cases hf
  exact Constant_none ⟨μ, .refl R, .none⟩
theorem SimS.expr {pos : Pos} {ev : Expr} {e : Ex} (he : SimE C k nm ev e) (hs : ∀ env, swapsWith ev none pos.line env = pure false) : SimS C k nm (.Expr ev pos) (S.expr e) := by
  refine ⟨?_⟩
  intro A env s μ H m r en hn F R fl m' H' hf
  unfold S.expr at hf
  obtain ⟨q, hq, hf⟩ := Option.map_eq_some_iff.mp hf
  cases hf
  refine wpAny_Expr_any (wp_mono (he.r A env s μ H m r en hn F R _ _ hq) fun v s1 z => ?_) (by unfold interactive; rw [en.kind]; rfl) (hs env)
  obtain ⟨μ1, S1, r1⟩ := z
  exact ⟨μ1, S1.weak0, F.stp R S1, trivial⟩
theorem SimS.fail {st : Stmt} : SimS C k nm st S.fail := by
  refine ⟨?_⟩
  intro A env s μ H m r en hn F R fl m' H' hf
  cases hf
theorem SimS.iff {pos : Pos} {et : Expr} {ea eb : List Stmt} {t : Tx} {a b : Sx} (ht : SimT C k nm et t) (ha : SimSs C k nm ea a) (hb : SimSs C k nm eb b) : SimS C k nm (.If et ea eb pos) (S.iff t a b) := by
  refine ⟨?_⟩
  intro A env s μ H m r en hn F R fl m' H' hf
  unfold S.iff at hf
  obtain ⟨q, hq, hf⟩ := Option.bind_eq_some_iff.mp hf
  refine wpAny_If (wp_mono (ht.r A env s μ H m r en hn F R _ _ hq) fun v s1 z => ?_)
  obtain ⟨rfl, μ1, S1⟩ := z
  split at hf
  · rename_i e
    rw [e, if_pos rfl]
    refine wp_mono (ha.r A env s1 μ1 _ m r en hn (F.stp R S1) S1.hr _ _ _ hf) fun f s2 z => ?_
    obtain ⟨μ2, S2, F2, r2⟩ := z
    exact ⟨μ2, S1.weak0.trans S2, F2, r2⟩
  · rename_i e
    rw [e, if_neg (by decide)]
    refine wp_mono (hb.r A env s1 μ1 _ m r en hn (F.stp R S1) S1.hr _ _ _ hf) fun f s2 z => ?_
    obtain ⟨μ2, S2, F2, r2⟩ := z
    exact ⟨μ2, S1.weak0.trans S2, F2, r2⟩
theorem SimSs.nil : SimSs C k nm [] S.nil := by
  refine ⟨?_⟩
  intro A env s μ H m r en hn F R fl m' H' hf
  cases hf
  exact wpAny_execs_nil ⟨μ, .refl R, F, trivial⟩
theorem SimSs.cons {st : Stmt} {sts : List Stmt} {a b : Sx} (ha : SimS C k nm st a) (hb : SimSs C k nm sts b) : SimSs C k nm (st :: sts) (S.seq a b) := by
  refine ⟨?_⟩
  intro A env s μ H m r en hn F R fl m' H' hf
  obtain ⟨⟨fl1, m1, H1⟩, hq, hf⟩ := Option.bind_eq_some_iff.mp hf
  refine wpAny_execs_cons (wp_mono (ha.r A env s μ H m r en hn F R _ _ _ hq) fun f s1 z => ?_)
  obtain ⟨μ1, S1, F1, r1⟩ := z
  cases fl1 with
  | next =>
    cases f <;> first | exact r1.elim | skip
    exact wp_mono (hb.r A env s1 μ1 _ _ r en hn F1 S1.hr _ _ _ hf) fun f s2 z => let ⟨μ2, S2, F2, r2⟩ := z; ⟨μ2, S1.trans S2, F2, r2⟩
  | cont => cases hf; cases f <;> first | exact r1.elim | exact ⟨μ1, S1, F1, r1⟩
  | ret v => cases hf; cases f <;> first | exact r1.elim | exact ⟨μ1, S1, F1, r1⟩
theorem SimS.whl {pos : Pos} {et : Expr} {eb : List Stmt} {t : Tx} {b : Sx} (ht : SimT C k nm et t) (hb : SimSs C k nm eb b) (n : Nat) : SimS C k nm (.While et eb [] pos) (S.whl t b n) := by
  refine ⟨?_⟩
  intro A env s μ H m r en hn F R fl m' H' hf
  refine wpAny_While (codeAny_whileLoop (fun i s1 => ∃ μ1 H1 m1, C.Stp μ (FA env) s μ1 s1 H1 ∧ FR C env μ1 s1.heap m1 ∧ S.whl t b i m1 H1 = some (fl, m', H')) (fun i s1 z => ?_) n ⟨μ, H, m, .refl R, F, hf⟩)
  obtain ⟨μ1, H1, m1, S1, F1, h1⟩ := z
  cases i with
  | zero => cases h1
  | succ i =>
    obtain ⟨⟨c, H2⟩, hp, h2⟩ := Option.bind_eq_some_iff.mp h1
    refine wp_any (wp_mono (ht.r A env s1 μ1 _ m1 r en hn F1 S1.hr _ _ hp) fun v s2 z => ?_)
    obtain ⟨rfl, μ2, S2⟩ := z
    cases v with
    | false => cases h2; exact wpAny_execs_nil ⟨μ2, S1.trans S2.weak0, F1.stp S1.hr S2, trivial⟩
    | true =>
      obtain ⟨⟨fl2, m2, H3⟩, hq, h3⟩ := Option.bind_eq_some_iff.mp h2
      refine wp_any (wp_mono (hb.r A env s2 μ2 _ m1 r en hn (F1.stp S1.hr S2) S2.hr _ _ _ hq) fun f s3 z => ?_)
      obtain ⟨μ3, S3, F3, r3⟩ := z
      have S123 := (S1.trans S2.weak0).trans S3
      clear S1 F1 h1 hp h2 S2 hq S3 hf F R
      cases fl2 with
      | ret v => cases h3; cases f <;> first | exact r3.elim | exact ⟨μ3, S123, F3, r3⟩
      | next => cases f <;> first | exact r3.elim | exact ⟨i, Nat.lt_succ_self _, μ3, _, _, S123, F3, h3⟩
      | cont => cases f <;> first | exact r3.elim | exact ⟨i, Nat.lt_succ_self _, μ3, _, _, S123, F3, h3⟩
end
namespace S
noncomputable def items (H : Hp) : V → Option (List V)
  | .tup vs => some vs
  | .ref r => match H[r]? with
    | some (.list vs) => some vs
    | _ => none
  | _ => none
noncomputable def stillIs (X : V) (vs : List V) (H : Hp) : Bool := dec (items H X = some vs)
/-- the turns over the items -/
noncomputable def turns (still : Hp → Bool) (bind : V → Loc → Option Loc) (body : Sx) : List V → Sx
  | [], m, H => if still H = true then some (.next, m, H) else none
  | X :: r, m, H => if still H = true then (bind X m).bind fun m1 => (body m1 H).bind fun p => match p.1 with
      | .ret v => some (.ret v, p.2.1, p.2.2)
      | _ => turns still bind body r p.2.1 p.2.2
    else none
@[simp] noncomputable def b1 (x : String) : V → Loc → Option Loc := fun X m => some (upd m x X)
@[simp] noncomputable def b2 (x y : String) : V → Loc → Option Loc
  | .tup [a, b], m => some (upd (upd m x a) y b)
  | _, _ => none
@[simp] noncomputable def forIn (bind : V → Loc → Option Loc) (it : Ex) (body : Sx) : Sx := fun m H => (it m H).bind fun p => (items p.2 p.1).bind fun vs => turns (stillIs p.1 vs) bind body vs m p.2
noncomputable def yes : Hp → Bool := fun _ => true
/-- over range(e) -/
@[simp] noncomputable def forR1 (bind : V → Loc → Option Loc) (e : Ex) (body : Sx) : Sx := fun m H => (e m H).bind fun p => match p.1 with
  | .int n => if sm (-1000000) 1000000 n = true then turns yes bind body (E.rangeVs 0 n) m p.2 else none
  | _ => none
@[simp] noncomputable def forR2 (bind : V → Loc → Option Loc) (a b : Ex) (body : Sx) : Sx := fun m H => (E.evs [a, b] m H).bind fun p => match p.1 with
  | [.int c, .int d] => if sm (-1000000) 1000000 c = true ∧ sm (-1000000) 1000000 d = true then turns yes bind body (E.rangeVs c d) m p.2 else none
  | _ => none
end S
noncomputable def owned (n : String) : Bool := ["enumerate", "zip", "dict_itemiterator", "dict_reverseitemiterator", "odict_iterator", "itertools.zip_longest", "itertools.pairwise"].contains n
structure Iter (C : Cx) (A : Around) (I : Addr) (vs : List V) (still : Hp → Bool) (St : Nat → Heap → Prop) (Pm : List Sl → Heap → Prop) : Prop where
  keep : ∀ i h h', St i h → (∀ o, h.get? I = some o → h'.get? I = some o) → St i h'
  pm : ∀ μ μ' h h', Pm μ h → Pre μ μ' → TupKeep h h' → Pm μ' h'
  kind : ∀ i h, St i h → ∃ o n fs, h.get? I = some o ∧ o.cls = .type n ∧ o.data = .fields fs ∧ owned n = false ∧ n ≠ "tuple"
  item : ∀ (i : Nat) (s : Shared) (μ : List Sl) (H : Hp) (X : V) (Q : Option Value → Shared → Prop), vs[i]? = some X → St i s.heap → Pm μ s.heap → C.HR μ s.heap H → still H = true →
    (∀ v h' tk, C.VR μ s.heap X v → St (i + 1) h' → (∀ b o, b ≠ I → s.heap.get? b = some o → h'.get? b = some o) → Q (some v) { s with heap := h', toks := tk }) → C.wp A (pyNext (.ref I)) Q s
  done : ∀ (s : Shared) (μ : List Sl) (H : Hp) (Q : Option Value → Shared → Prop), St vs.length s.heap → Pm μ s.heap → C.HR μ s.heap H → still H = true →
    (∀ h' tk, (∀ b o, b ≠ I → s.heap.get? b = some o → h'.get? b = some o) → Q none { s with heap := h', toks := tk }) → C.wp A (pyNext (.ref I)) Q s
  self : ∀ (i : Nat) (s : Shared) (Q : Value → Shared → Prop), St i s.heap → Q (.ref I) s → C.wp A (pyIter (.ref I)) Q s
section
variable {C : Cx} {μ : List Sl} {A : Around} {s : Shared} {H : Hp} {k : Nat} {nm : List (Str × NameKind)}
theorem Iter.list (hh : A.handled = none) {I : Addr} {rr : Nat} {sl : Sl} {vs : List V} : Iter C A I vs (S.stillIs (.ref rr) vs) (fun i h => h.IsListIter I sl.a i) (fun μ _ => μ[rr]? = some sl) := by
  have get : ∀ {μ : List Sl} {h : Heap} {H : Hp}, μ[rr]? = some sl → C.HR μ h H → S.stillIs (.ref rr) vs H = true → ∃ xs, h.IsList sl.a xs.toArray ∧ C.VRs μ h vs xs := by
    intro μ h H e R st
    unfold S.stillIs at st
    rw [dec_eq_true_iff] at st
    simp only [S.items] at st
    split at st
    · rename_i e0
      cases st
      obtain ⟨sl', e4, o1⟩ := R.at e0
      rw [e] at e4; injection e4 with e4; subst e4
      cases o1 with | list a1 _ r1 _ => ?_
      exact ⟨_, IsList.of a1, r1⟩
    · cases st
  refine ⟨fun i h h' st k => st.at k, fun μ μ' h h' e p _ => p _ _ e, fun i h st => ?_, fun i s μ H X Q hx st e R hs q => ?_, fun s μ H Q st e R hs q => ?_, fun i s Q st q => wpAny_pyIter_listiter st q⟩
  · obtain ⟨o, a, b, c⟩ := st
    exact ⟨o, _, _, a, b, c, by decide, by decide⟩
  · obtain ⟨xs, l, r1⟩ := get e R hs
    obtain ⟨v, ev, rv⟩ := r1.get hx
    exact wpAny_pyNext_list_item st l (x := v) (by simpa using ev) fun h' st' hs' => q v h' s.toks rv st' fun b o hb e => (hs'.2 b hb).trans e
  · obtain ⟨xs, l, r1⟩ := get e R hs
    exact wpAny_pyNext_list_end hh st l (by have := r1.length; simp; omega) fun h' he => q h' s.toks he
theorem Iter.tuple (hh : A.handled = none) {I t : Addr} {vs : List V} {xs : List Value} {still : Hp → Bool} : Iter C A I vs still (fun i h => IsTupIter h I t i) (fun μ h => h.get? t = some (tupObj xs) ∧ C.VRs μ h vs xs) := by
  refine ⟨fun i h h' st k => let ⟨o, ho, r⟩ := st; ⟨o, k _ ho, r⟩, fun μ μ' h h' e p T => ⟨T _ _ e.1, e.2.mono T p⟩, fun i h st => ?_, fun i s μ H X Q hx st e R hs q => ?_, fun s μ H Q st e R hs q => ?_, fun i s Q st q => ?_⟩
  · obtain ⟨o, a, b, c⟩ := st
    exact ⟨o, _, _, a, b, c, by decide, by decide⟩
  · obtain ⟨v, ev, rv⟩ := e.2.get hx
    exact next_tuple_item st (IsTup.of e.1) (x := v) (by simpa using ev) fun h' st' hs' => q v h' s.toks rv st' fun b o hb e => (hs'.2 b hb).trans e
  · exact next_tuple_end hh st (IsTup.of e.1) (by have := e.2.length; simp; omega) fun h' he => q h' s.toks he
  · exact wpAny_pyIter_tupleiter (t := t) (i := i) st q
theorem rangeVs_get {a b : Int} {i : Nat} {X : V} (h : (E.rangeVs a b)[i]? = some X) : i < (b - a).toNat ∧ X = .int (a + i) := by
  unfold E.rangeVs at h
  rw [List.getElem?_map] at h
  obtain ⟨j, hj, rfl⟩ := Option.map_eq_some_iff.mp h
  obtain ⟨hlt, hv⟩ := List.getElem?_eq_some_iff.mp hj
  simp at hlt hv
  subst hv
  exact ⟨by omega, rfl⟩
theorem Iter.range (hh : A.handled = none) {I : Addr} {a b : Int} {n : Int} (hn : n = ((b - a).toNat : Int)) : Iter C A I (E.rangeVs a b) S.yes (fun i h => IsRangeIter h I (a + i) (n - i) 1) (fun _ _ => True) := by
  refine ⟨fun i h h' st k => k _ st, fun _ _ _ _ _ _ _ => trivial, fun i h st => ⟨_, _, _, st, rfl, rfl, by decide, by decide⟩, fun i s μ H X Q hx st e R hs q => ?_, fun s μ H Q st e R hs q => ?_, fun i s Q st q => ?_⟩
  · obtain ⟨hlt, rfl⟩ := rangeVs_get hx
    refine wpAny_pyNext_range_item st (by omega) fun h' st' hs' => q _ h' _ (.int _ _) ?_ fun b o hb e => (hs'.2 b hb).trans e
    have e1 : a + ((i + 1 : Nat) : Int) = a + i + 1 := by omega
    have e2 : n - ((i + 1 : Nat) : Int) = n - i - 1 := by omega
    rw [e1, e2]; exact st'
  · exact wpAny_pyNext_range_end hh st (by rw [rangeVs_length]; omega) fun h' he => q h' s.toks he
  · exact wpAny_pyIter_rangeiter st q
theorem HR.but {prog : Program} {w : World} {h0 h h' : Heap} {I : Addr} (R : HR prog w h0 μ h H) (k : ∀ b o, b ≠ I → h.get? b = some o → h'.get? b = some o) (z : h.objs.size ≤ h'.objs.size) (n : ¬ madr μ I) (l : h0.objs.size ≤ I) (nt : ∀ vs, h.get? I ≠ some (tupObj vs)) :
    HR prog w h0 μ h' H ∧ TupKeep h h' := by
  have T : TupKeep h h' := fun a vs e => k a _ (fun q => nt vs (q ▸ e)) e
  refine ⟨⟨fun b o e => k b o (fun q => ?_) (R.base b o e), Nat.le_trans R.bsz z, R.len, R.low, R.apart, fun i sl o ei eo => ?_⟩, T⟩
  · exact lt_no (Heap.lt_size e) (q ▸ l)
  · have mem := List.mem_of_getElem? ei
    refine (R.objs i sl o ei eo).mono T (.refl _) (fun o q => k _ o (fun z => n ?_) q) fun o q => k _ o (fun z => n ?_) q
    · exact z ▸ ⟨sl, mem, .inl rfl⟩
    · exact z ▸ ⟨sl, mem, .inr rfl⟩
theorem letOwned {target : Expr} {I : Addr} {v : Value} {o : Obj} {n : String} {fs : Array Value} {Q : Unit → Shared → Prop} (e : s.heap.get? I = some o) (hc : o.cls = .type n) (hd : o.data = .fields fs) (hn : owned n = false) (q : Q () s) : C.wp A (letOwnedTupleGo target (.ref I) v) Q s := by
  unfold letOwnedTupleGo
  have go : C.wp A (do
      let (.ref r, .ref a) := (Value.ref I, v) | return
      let o ← load r
      match o.cls, o.data with
      | .type n, .fields vs =>
        if ["enumerate", "zip", "dict_itemiterator", "dict_reverseitemiterator", "odict_iterator", "itertools.zip_longest", "itertools.pairwise"].contains n && vs[0]? == some (rawInt a) then
          rule "for.unpacks-the-owned-tuple"
          updateField r 0 .none
      | _, _ => pure () : Sem Unit) Q s := by
    cases v with
    | ref a =>
      refine wpAny_bind (wpAny_load e ?_)
      rw [hc, hd]
      show wpAny _ A (if (owned n && fs[0]? == some (rawInt a)) = true then _ else _) Q _ s
      rw [hn, Bool.false_and, if_neg (by decide)]
      exact wpAny_pure q
    | _ => exact wpAny_pure q
  split
  · exact go
  · exact go
  · exact wpAny_pure q
/-- a target takes what comes -/
structure SimB (C : Cx) (nm : List (Str × NameKind)) (target : Expr) (bind : V → Loc → Option Loc) : Prop where
  r : ∀ (A : Around) (env : Env) (s : Shared) (μ : List Sl) (H : Hp) (m m' : Loc) (X : V) (v : Value), A.handled = none → EnvOk env → env.scope.names = nm → FR C env μ s.heap m → C.HR μ s.heap H → C.VR μ s.heap X v → bind X m = some m' →
    C.wp A (assign target env v) (fun _ s' => C.Stp μ (FA env) s μ s' H ∧ FR C env μ s'.heap m') s
theorem SimB.one {x : String} {p : Pos} (hk : Own nm x) : SimB C nm (.Name (Str.ofString x) p) (S.b1 x) := by
  refine ⟨?_⟩
  intro A env s μ H m m' X v hh en hn F R rv hb
  cases hb
  exact PySem.wpAny_assign_Name (store en hn hk F R rv fun s' S F' => ⟨S, F'⟩)
theorem unpackS {t : Addr} {items : Array Value} {targets : List (Bool × (Value → Sem Unit))} {Q : Unit → Shared → Prop} (hh : A.handled = none) (ht : IsTup s.heap t items)
    (hn : targets.length = items.size) (hstar : targets.findIdx? (·.1) = none)
    (h : ∀ h', Heap.ExtBut s.heap.objs.size s.heap h' → s.heap.objs.size ≤ h'.objs.size → C.wp A (assignInOrder (targets.map (·.2)) items.toList) Q { s with heap := h' }) :
    C.wp A (unpack (.ref t) targets) Q s := by
  unfold unpack
  rw [hn, hstar]
  exact wpAny_bind (wpAny_holding (with_size (unpackItems_tuple hh ht fun h' he hz => h h' he hz)))
theorem SimB.two {x y : String} {p q pos : Pos} {n : Nat} (hx : Own nm x) (hy : Own nm y) : SimB C nm (.Tuple [.Name (Str.ofString x) p, .Name (Str.ofString y) q] n pos) (S.b2 x y) := by
  refine ⟨?_⟩
  intro A env s μ H m m' X v hh en hn F R rv hb
  unfold S.b2 at hb
  split at hb
  · rename_i U W _
    cases hb
    cases rv with | @tup t xs _ e1 r1 => ?_
    have hl := r1.length
    show C.wp A _ _ s
    rw [PyProof.Rows.assign_Tuple]
    refine wpAny_bind (wpAny_standAt (unpackS hh (IsTup.of e1) (by rw [List.size_toArray, hl]; rfl) rfl fun h' he hz => ?_))
    have k1 : ∀ b o, s.heap.get? b = some o → h'.get? b = some o := fun b o e => he b o (Nat.ne_of_lt (Heap.lt_size e)) e
    cases r1 with | @cons _ u _ us ra r1 => ?_
    cases r1 with | @cons _ w _ ws rb r1 => ?_
    cases r1
    have S1 : C.Stp μ noW s μ { s with heap := h' } H := .grow R k1 hz s.toks
    have T1 := S1.tup0 R
    have F1 := F.stp R S1
    show C.wp A (assignInOrder [assign (.Name (Str.ofString x) p) env, assign (.Name (Str.ofString y) q) env] [u, w]) _ _
    refine assignInOrder_cons (PySem.wpAny_assign_Name (store en hn hx F1 S1.hr (ra.mono T1 (.refl _)) fun s2 S2 F2 => ?_))
    have rb2 := (rb.mono T1 (.refl _)).mono (S2.tupF F1 S1.hr) (.refl _)
    refine assignInOrder_cons (PySem.wpAny_assign_Name (store en hn hy F2 S2.hr rb2 fun s3 S3 F3 => assignInOrder_nil ⟨(S1.weak0.trans S2).trans S3, F3⟩))
  · cases hb
/-- what the turns of a loop come to -/
inductive Turned (still : Hp → Bool) (bind : V → Loc → Option Loc) (body : Sx) (X : V) (r : List V) (m : Loc) (H : Hp) (z : Fl × Loc × Hp) : Prop
  | ret {m1 m2 : Loc} {H2 : Hp} {v : V} : bind X m = some m1 → body m1 H = some (.ret v, m2, H2) → z = (.ret v, m2, H2) → Turned still bind body X r m H z
  | go {m1 m2 : Loc} {H2 : Hp} {fl : Fl} : bind X m = some m1 → body m1 H = some (fl, m2, H2) → (∀ v, fl ≠ .ret v) → S.turns still bind body r m2 H2 = some z → Turned still bind body X r m H z
theorem still_of {α : Type} {b : Bool} {t : Option α} {z : α} (h : (if b = true then t else none) = some z) : b = true ∧ t = some z := by
  cases b with
  | true => exact ⟨rfl, h⟩
  | false => cases h
theorem turns_nil {still : Hp → Bool} {bind : V → Loc → Option Loc} {body : Sx} {m : Loc} {H : Hp} {z : Fl × Loc × Hp} (h : S.turns still bind body [] m H = some z) : still H = true ∧ z = (.next, m, H) := ⟨(still_of h).1, (Option.some.inj (still_of h).2).symm⟩
theorem turns_cons {still : Hp → Bool} {bind : V → Loc → Option Loc} {body : Sx} {m : Loc} {H : Hp} {z : Fl × Loc × Hp} {X : V} {r : List V} (h : S.turns still bind body (X :: r) m H = some z) : still H = true ∧ Turned still bind body X r m H z := by
  obtain ⟨hs, h⟩ := still_of h
  obtain ⟨m1, e1, h⟩ := Option.bind_eq_some_iff.mp h
  obtain ⟨⟨fl, m2, H2⟩, e2, h⟩ := Option.bind_eq_some_iff.mp h
  refine ⟨hs, ?_⟩
  cases fl with
  | ret v => exact .ret e1 e2 (Option.some.inj h).symm
  | next => exact .go e1 e2 (fun _ h => nomatch h) h
  | cont => exact .go e1 e2 (fun _ h => nomatch h) h
theorem Iter.notTup {I : Addr} {vs : List V} {still : Hp → Bool} {St : Nat → Heap → Prop} {Pm : List Sl → Heap → Prop} (It : Iter C A I vs still St Pm) {i : Nat} {h : Heap} (st : St i h) (vs : List Value) : h.get? I ≠ some (tupObj vs) := fun e => by
  obtain ⟨o, n, fs, ho, hc, _, _, hnt⟩ := It.kind i h st
  cases ho.symm.trans e
  cases hc
  exact hnt rfl
/-- a loop -/
structure FX where
  C : Cx
  A : Around
  I : Addr
  vs : List V
  still : Hp → Bool
  St : Nat → Heap → Prop
  Pm : List Sl → Heap → Prop
  env : Env
  bind : V → Loc → Option Loc
  body : Sx
  z : Fl × Loc × Hp
  s : Shared
  μ : List Sl
structure FX.Ok (X : FX) : Prop where
  It : Iter X.C X.A X.I X.vs X.still X.St X.Pm
  hI : X.C.h0.objs.size ≤ X.I
  hM : ¬ madr X.μ X.I
  hF : ¬ FA X.env X.I
  hlt : X.I < X.s.heap.objs.size
noncomputable def FX.W (X : FX) (a : Addr) : Prop := FA X.env a ∨ a = X.I
structure FX.At (X : FX) (i : Nat) (s1 : Shared) (μ1 : List Sl) (H1 : Hp) (m1 : Loc) : Prop where
  sp : X.C.Stp X.μ X.W X.s μ1 s1 H1
  F : FR X.C X.env μ1 s1.heap m1
  st : X.St i s1.heap
  pm : X.Pm μ1 s1.heap
  t : S.turns X.still X.bind X.body (X.vs.drop i) m1 H1 = some X.z
inductive FX.Inv (X : FX) (j : Nat) (s1 : Shared) : Prop
  | mk (i : Nat) (μ1 : List Sl) (H1 : Hp) (m1 : Loc) (hi : i ≤ X.vs.length) (e : j = X.vs.length + 1 - i) (a : X.At i s1 μ1 H1 m1) : X.Inv j s1
/-- the iterator alone has moved -/
structure FX.Adv (X : FX) (s1 : Shared) (μ1 : List Sl) (H1 : Hp) (m1 : Loc) (h' : Heap) (tk : Nat) : Prop where
  sp : X.C.Stp μ1 X.W s1 μ1 { s1 with heap := h', toks := tk } H1
  F : FR X.C X.env μ1 h' m1
  T : TupKeep s1.heap h'
section
variable {X : FX} {i : Nat} {s1 : Shared} {μ1 : List Sl} {H1 : Hp} {m1 : Loc}
theorem FX.At.off (ok : X.Ok) (a : X.At i s1 μ1 H1 m1) : ¬ madr μ1 X.I := fun e => (a.sp.fresh X.I e).elim ok.hM (lt_no ok.hlt)
theorem FX.At.adv (ok : X.Ok) (a : X.At i s1 μ1 H1 m1) {h' : Heap} {tk : Nat} (k1 : ∀ b o, b ≠ X.I → s1.heap.get? b = some o → h'.get? b = some o) (hz : s1.heap.objs.size ≤ h'.objs.size) : X.Adv s1 μ1 H1 m1 h' tk :=
  have RT := HR.but a.sp.hr k1 hz (a.off ok) ok.hI (ok.It.notTup a.st)
  ⟨⟨rfl, .refl _, RT.1, fun a o e _ w => k1 a o (fun z => w (.inr z)) e, fun _ m => .inl m, hz⟩, a.F.keeps (fun a f o e => k1 a o (fun z => ok.hF (z ▸ f)) e) RT.2 (.refl _) fun a m => .inl m, RT.2⟩
theorem Stp.wide {X : FX} {μa μb : List Sl} {sa sb : Shared} {Hb : Hp} (x : X.C.Stp μa (FA X.env) sa μb sb Hb) : X.C.Stp μa X.W sa μb sb Hb := x.weak fun _ h => .inl (.inl h)
/-- after a turn -/
theorem FX.At.next (ok : X.Ok) (a : X.At i s1 μ1 H1 m1) {h' : Heap} {tk : Nat} (v : X.Adv s1 μ1 H1 m1 h' tk) (st2 : X.St (i + 1) h') {μ4 : List Sl} {s4 : Shared} {H4 : Hp} {m4 : Loc} (sp : X.C.Stp μ1 (FA X.env) { s1 with heap := h', toks := tk } μ4 s4 H4) (F4 : FR X.C X.env μ4 s4.heap m4) (t : S.turns X.still X.bind X.body (X.vs.drop (i + 1)) m4 H4 = some X.z) : X.At (i + 1) s4 μ4 H4 m4 :=
  ⟨(a.sp.trans v.sp).trans (Stp.wide sp), F4, ok.It.keep (i + 1) h' s4.heap st2 fun o e => sp.keep X.I o e (a.off ok) ok.hF, ok.It.pm μ1 μ4 s1.heap s4.heap a.pm sp.pre (v.T.trans (sp.tupF v.F v.sp.hr)), t⟩
end
theorem ar_turn {n i : Nat} (h : i < n) : n + 1 - (i + 1) < n + 1 - i := by omega
/-- the loop over what an iterator gives -/
theorem for_simX {target : Expr} {eb : List Stmt} (X : FX) (ok : X.Ok) (hB : SimB X.C nm target X.bind) (hb : SimSs X.C k nm eb X.body) (r : Room X.A k) (en : EnvOk X.env) (hn : X.env.scope.names = nm) {m : Loc} {H : Hp} (a : X.At 0 X.s X.μ H m) {Q : Flow → Shared → Prop}
    (q : ∀ v μ' s', X.C.Stp X.μ X.W X.s μ' s' X.z.2.2 → FR X.C X.env μ' s'.heap X.z.2.1 → FlR X.C μ' s'.heap X.z.1 v → Q v s') :
    codeAny (model X.C.prog X.C.w) X.A (.forLoop target (.ref X.I) eb [] X.env) (fun r s' => match r with | .ok f => Q f s' | .error e => cameBackBy (model X.C.prog X.C.w) X.A X.env (fun _ _ => False) e s') X.s := by
  refine codeAny_forLoop_any X.Inv (fun j s1 z => ?_) (X.vs.length + 1) ⟨0, X.μ, H, m, Nat.zero_le _, rfl, a⟩
  cases z with | mk i μ1 H1 m1 hi e a => ?_
  subst e
  by_cases hlast : i = X.vs.length
  · subst hlast
    have t := a.t
    rw [List.drop_length] at t
    obtain ⟨hs, e⟩ := turns_nil t
    rw [e] at q
    exact wp_any (with_size (ok.It.done s1 μ1 _ _ a.st a.pm a.sp.hr hs fun h' tk k1 hz => have v := a.adv ok k1 hz; wpAny_execs_nil (q _ μ1 _ (a.sp.trans v.sp) v.F trivial)))
  · have hlt2 : i < X.vs.length := Nat.lt_of_le_of_ne hi hlast
    have t := a.t
    rw [List.drop_eq_getElem_cons hlt2] at t
    obtain ⟨hs, t⟩ := turns_cons t
    refine wp_any (with_size (ok.It.item i s1 μ1 H1 _ _ (List.getElem?_eq_getElem hlt2) a.st a.pm a.sp.hr hs fun v h' tk rv st2 k1 hz => ?_))
    have d := a.adv (tk := tk) ok k1 hz
    obtain ⟨o2, n2, fs2, ho2, hc2, hd2, how2, _⟩ := ok.It.kind (i + 1) h' st2
    refine wp_any (letOwned (C := X.C) (s := { s1 with heap := h', toks := tk }) ho2 hc2 hd2 how2 ?_)
    clear ho2 hc2 hd2 how2 k1 hz hlast
    cases t with
    | ret e1 e2 e3 =>
      rw [e3] at q
      refine wp_any (wp_mono (hB.r X.A X.env { s1 with heap := h', toks := tk } μ1 H1 m1 _ _ v r.handled en hn d.F d.sp.hr (rv.mono d.T (.refl _)) e1) fun _ s3 z => wp_any (wp_mono (hb.r X.A X.env s3 μ1 H1 _ r en hn z.2 z.1.hr _ _ _ e2) fun f s4 y => ?_))
      obtain ⟨μ4, S4, F4, r4⟩ := y
      cases f with
      | ret x => exact q _ μ4 s4 ((a.sp.trans d.sp).trans (Stp.wide (z.1.trans S4))) F4 r4
      | _ => exact r4.elim
    | @go _ _ _ fl e1 e2 e3 e4 =>
      refine wp_any (wp_mono (hB.r X.A X.env { s1 with heap := h', toks := tk } μ1 H1 m1 _ _ v r.handled en hn d.F d.sp.hr (rv.mono d.T (.refl _)) e1) fun _ s3 z => wp_any (wp_mono (hb.r X.A X.env s3 μ1 H1 _ r en hn z.2 z.1.hr _ _ _ e2) fun f s4 y => ?_))
      obtain ⟨μ4, S4, F4, r4⟩ := y
      have fin : ∃ mm, mm < X.vs.length + 1 - i ∧ X.Inv mm s4 := ⟨_, ar_turn hlt2, i + 1, μ4, _, _, hlt2, rfl, a.next ok d st2 (z.1.trans S4) F4 e4⟩
      clear a d st2 z S4 F4 e1 e2 e4 rv hB hb q
      cases fl with
      | ret w => exact absurd rfl (e3 w)
      | next => cases f <;> first | exact r4.elim | exact fin
      | cont => cases f <;> first | exact r4.elim | exact fin
theorem for_sim {target : Expr} {bind : V → Loc → Option Loc} {eb : List Stmt} {body : Sx} {I : Addr} {vs : List V} {still : Hp → Bool} {St : Nat → Heap → Prop} {Pm : List Sl → Heap → Prop} {env : Env} {m m' : Loc} {H' : Hp} {fl : Fl}
    (It : Iter C A I vs still St Pm) (hB : SimB C nm target bind) (hb : SimSs C k nm eb body) (r : Room A k) (en : EnvOk env) (hn : env.scope.names = nm) (F : FR C env μ s.heap m) (R : C.HR μ s.heap H)
    (hI : C.h0.objs.size ≤ I) (hM : ¬ madr μ I) (hF : ¬ FA env I) (hlt : I < s.heap.objs.size) (st : St 0 s.heap) (pm : Pm μ s.heap) (hf : S.turns still bind body vs m H = some (fl, m', H')) {Q : Flow → Shared → Prop}
    (q : ∀ v μ' s', C.Stp μ (fun a => FA env a ∨ a = I) s μ' s' H' → FR C env μ' s'.heap m' → FlR C μ' s'.heap fl v → Q v s') :
    codeAny (model C.prog C.w) A (.forLoop target (.ref I) eb [] env) (fun r s' => match r with | .ok f => Q f s' | .error e => cameBackBy (model C.prog C.w) A env (fun _ _ => False) e s') s :=
  for_simX ⟨C, A, I, vs, still, St, Pm, env, bind, body, (fl, m', H'), s, μ⟩ ⟨It, hI, hM, hF, hlt⟩ hB hb r en hn ⟨.refl R, F, st, pm, hf⟩ q
theorem for_end {env : Env} {m' : Loc} {H' : Hp} {fl : Fl} {μ0 : List Sl} {s0 : Shared} {I : Addr} (S0 : C.Stp μ0 noW s0 μ s H) (hI : s0.heap.objs.size ≤ I) : ∀ v μ' s', C.Stp μ (fun a => FA env a ∨ a = I) s μ' s' H' → FR C env μ' s'.heap m' → FlR C μ' s'.heap fl v →
    ∃ μ', C.Stp μ0 (FA env) s0 μ' s' H' ∧ FR C env μ' s'.heap m' ∧ FlR C μ' s'.heap fl v := fun v μ' s' S1 F1 r1 =>
  ⟨μ', (S0.weak0.trans S1).weak fun a w => by rcases w with w | rfl; exact .inl w; exact .inr hI, F1, r1⟩
theorem SimS.forIn {target ei : Expr} {pos : Pos} {eb : List Stmt} {bind : V → Loc → Option Loc} {it : Ex} {body : Sx} (hi : SimE C k nm ei it) (hB : SimB C nm target bind) (hb : SimSs C k nm eb body) (hs : ∀ env x, foldedSetIterable ei env x = pure x) :
    SimS C k nm (.For target ei eb [] pos) (S.forIn bind it body) := by
  refine ⟨?_⟩
  intro A env s μ H m r en hn F R fl m' H' h0
  unfold S.forIn at h0
  obtain ⟨p, hp, h1⟩ := Option.bind_eq_some_iff.mp h0
  obtain ⟨vs, hvs, h2⟩ := Option.bind_eq_some_iff.mp h1
  refine wpAny_For (wp_mono (hi.r A env s μ H m r en hn F R _ _ hp) fun v s1 z => ?_) (hs env)
  obtain ⟨μ1, S1, r1⟩ := z
  have F1 := F.stp R S1
  have kp : ∀ (o b : _) (oo : Obj), s1.heap.get? b = some oo → (s1.heap.push o).get? b = some oo := fun o b oo e => Heap.get?_push_of_some _ e
  have new : ¬ madr μ1 s1.heap.objs.size := fun e => lt_no (S1.hr.lt e) (Nat.le_refl _)
  have newF : ¬ FA env s1.heap.objs.size := fun e => lt_no (F1.lt e) (Nat.le_refl _)
  obtain ⟨X, H1⟩ := p
  dsimp only at r1 hvs h2 S1
  unfold S.items at hvs
  split at hvs
  · cases hvs
    cases r1 with | @tup t xs _ e1 rr => ?_
    refine iter_tuple (IsTup.of e1) ?_
    have S2 : C.Stp μ1 noW s1 μ1 { s1 with heap := s1.heap.push { cls := .type "tuple_iterator", data := .fields #[.ref t, .int 0 0] } } H1 := .grow S1.hr (kp _) (by rw [Heap.size_push]; exact Nat.le_succ _) _
    exact for_sim (Iter.tuple (xs := xs) r.handled) hB hb r en hn (F1.stp S1.hr S2) S2.hr (S1.hr.bsz) new newF (by rw [Heap.size_push]; exact Nat.lt_succ_self _) ⟨_, Heap.get?_push_size _ rfl, rfl, rfl⟩
      ⟨kp _ _ _ e1, rr.mono (S2.tup0 S1.hr) (.refl _)⟩ h2 (for_end (S1.trans S2) S1.size)
  · split at hvs
    · rename_i e0
      cases hvs
      cases r1 with | @ref _ sl e1 => ?_
      obtain ⟨sl', e4, o1⟩ := S1.hr.at e0
      rw [e1] at e4; injection e4 with e4; subst e4
      cases o1 with | @list xs _ _ _ a1 _ rr _ => ?_
      refine wpAny_pyIter_list (IsList.of a1) ?_
      have S2 : C.Stp μ1 noW s1 μ1 { s1 with heap := s1.heap.push { cls := .type "list_iterator", data := .fields #[.ref sl.a, .int 0 0] } } H1 := .grow S1.hr (kp _) (by rw [Heap.size_push]; exact Nat.le_succ _) _
      exact for_sim (Iter.list r.handled (sl := sl)) hB hb r en hn (F1.stp S1.hr S2) S2.hr (S1.hr.bsz) new newF (by rw [Heap.size_push]; exact Nat.lt_succ_self _) ⟨_, Heap.get?_push_size _ rfl, rfl, rfl⟩
        e1 h2 (for_end (S1.trans S2) S1.size)
    · cases hvs
  · cases hvs
theorem forRange_end {target : Expr} {eb : List Stmt} {bind : V → Loc → Option Loc} {body : Sx} {env : Env} {m m' : Loc} {H' : Hp} {fl : Fl} {μ0 : List Sl} {s0 : Shared} {a b : Int} {t u v : Tok} (S0 : C.Stp μ0 noW s0 μ s H) (hB : SimB C nm target bind) (hb : SimSs C k nm eb body)
    (r : Room A k) (en : EnvOk env) (hn : env.scope.names = nm) (F : FR C env μ s.heap m) (ha : -1000000 < a ∧ a < 1000000 ∧ -1000000 < b ∧ b < 1000000) {rr : Addr} (hr : IsRange s.heap rr a b 1 t u v) (hf : S.turns S.yes bind body (E.rangeVs a b) m H = some (fl, m', H')) :
    C.wp A (pyIter (.ref rr)) (fun it s2 => codeAny (model C.prog C.w) A (.forLoop target it eb [] env) (fun r s' => match r with | .ok f => ∃ μ', C.Stp μ0 (FA env) s0 μ' s' H' ∧ FR C env μ' s'.heap m' ∧ FlR C μ' s'.heap fl f | .error e => cameBackBy (model C.prog C.w) A env (fun _ _ => False) e s') s2) s := by
  refine wpAny_pyIter_range hr (small_one (by omega) (by omega) (by omega) (by omega)) ?_
  have kp : ∀ (o b : _) (oo : Obj), s.heap.get? b = some oo → (s.heap.push o).get? b = some oo := fun o b oo e => Heap.get?_push_of_some _ e
  have S2 : C.Stp μ noW s μ { s with heap := s.heap.push { cls := .type "range_iterator", data := .fields #[rawInt a, rawInt (Builtin.Range.rangeSize a b 1), rawInt 1] } } H := .grow S0.hr (kp _) (by rw [Heap.size_push]; exact Nat.le_succ _) _
  have new : ¬ madr μ s.heap.objs.size := fun e => lt_no (S0.hr.lt e) (Nat.le_refl _)
  have newF : ¬ FA env s.heap.objs.size := fun e => lt_no (F.lt e) (Nat.le_refl _)
  have hsz : Builtin.Range.rangeSize a b 1 = ((b - a).toNat : Int) := by rw [rangeSize_one]; split <;> omega
  refine for_sim (Iter.range r.handled hsz) hB hb r en hn (F.stp S0.hr S2) S2.hr S0.hr.bsz new newF (by rw [Heap.size_push]; exact Nat.lt_succ_self _) ?_ trivial hf (for_end (S0.trans S2) S0.size)
  have : IsRangeIter (s.heap.push { cls := .type "range_iterator", data := .fields #[rawInt a, rawInt (Builtin.Range.rangeSize a b 1), rawInt 1] }) s.heap.objs.size a (Builtin.Range.rangeSize a b 1) 1 := Heap.get?_push_size _ rfl
  simpa using this
theorem SimS.forR1 (G : C.Ok) {target e : Expr} {p pos pos2 : Pos} {eb : List Stmt} {bind : V → Loc → Option Loc} {a : Ex} {body : Sx} (h : SimE C k nm e a) (hg : GB C "range" (.type "range"))
    (hB : SimB C nm target bind) (hb : SimSs C k nm eb body) (hs : notStar e = true) (hl : nm.lookup (Str.ofString "range") = some .globalImplicit) : SimS C k nm (.For target (.Call (.Name (Str.ofString "range") p) [e] [] pos2) eb [] pos) (S.forR1 bind a body) := by
  refine ⟨?_⟩
  intro A env s μ H m r en hn F R fl m' H' h0
  unfold S.forR1 at h0
  obtain ⟨q, hq, h1⟩ := Option.bind_eq_some_iff.mp h0
  split at h1
  · rename_i n e1
    split at h1
    · rename_i hc
      rw [sm_iff] at hc
      refine wpAny_For ?_ (fun _ => rfl)
      refine eval_Call_Name (name_GB (m := m) G en hn R hl hg (by decide) (callW (SimA.one h hs) (.type _) r en hn F R (evs_one hq) fun vs μ1 s1 S1 r1 => ?_))
      cases r1 with | cons r1 r2 => ?_
      cases r2
      rw [e1] at r1
      cases r1 with | int _ t => ?_
      refine call_range_1 ?_
      have S2 : C.Stp μ1 noW s1 μ1 { s1 with heap := s1.heap.push { cls := .type "range", data := .fields #[.int 0 s1.toks, .int n t, .int 1 (s1.toks + 1)] }, toks := s1.toks + 1 + 1 } q.2 := .grow S1.hr (fun b o e => Heap.get?_push_of_some _ e) (by rw [Heap.size_push]; exact Nat.le_succ _) _
      exact forRange_end (S1.trans S2) hB hb r en hn (F.stp R (S1.trans S2)) (by omega) (IsRange.new _ _ _ _ _ _ _) h1
    · cases h1
  · cases h1
theorem SimS.forR2 (G : C.Ok) {target e1 e2 : Expr} {p pos pos2 : Pos} {eb : List Stmt} {bind : V → Loc → Option Loc} {a b : Ex} {body : Sx} (h1 : SimE C k nm e1 a) (h2 : SimE C k nm e2 b) (hs1 : notStar e1 = true) (hs2 : notStar e2 = true) (hl : nm.lookup (Str.ofString "range") = some .globalImplicit) (hg : GB C "range" (.type "range"))
    (hB : SimB C nm target bind) (hb : SimSs C k nm eb body) : SimS C k nm (.For target (.Call (.Name (Str.ofString "range") p) [e1, e2] [] pos2) eb [] pos) (S.forR2 bind a b body) := by
  refine ⟨?_⟩
  intro A env s μ H m r en hn F R fl m' H' h0
  unfold S.forR2 at h0
  obtain ⟨q, hq, h3⟩ := Option.bind_eq_some_iff.mp h0
  split at h3
  · rename_i c d eq
    split at h3
    · rename_i hc
      rw [sm_iff, sm_iff] at hc
      refine wpAny_For ?_ (fun _ => rfl)
      refine eval_Call_Name (name_GB (m := m) G en hn R hl hg (by decide) (callW (.cons h1 hs1 (.cons h2 hs2 .nil)) (.type _) r en hn F R hq fun vs μ1 s1 S1 r1 => ?_))
      rw [eq] at r1
      cases r1 with | cons ra r1 => ?_
      cases r1 with | cons rb r1 => ?_
      cases r1
      cases ra with | int _ t => ?_
      cases rb with | int _ u => ?_
      refine call_range_2 ?_
      have S2 : C.Stp μ1 noW s1 μ1 { s1 with heap := s1.heap.push { cls := .type "range", data := .fields #[.int c t, .int d u, .int 1 s1.toks] }, toks := s1.toks + 1 } q.2 := .grow S1.hr (fun b o e => Heap.get?_push_of_some _ e) (by rw [Heap.size_push]; exact Nat.le_succ _) _
      exact forRange_end (S1.trans S2) hB hb r en hn (F.stp R (S1.trans S2)) (by omega) (IsRange.new _ _ _ _ _ _ _) h3
    · cases h3
  · cases h3
end
namespace E
noncomputable def turnsC (still : Hp → Bool) (bind : V → Loc → Option Loc) (test : Tx) (elt : Ex) : List V → Loc → Hp → Option (List V × Hp)
  | [], _, H => if still H = true then some ([], H) else none
  | X :: r, m, H => if still H = true then (bind X m).bind fun m1 => (test m1 H).bind fun t => match t.1 with
      | true => (elt m1 t.2).bind fun q => (turnsC still bind test elt r m1 q.2).map fun z => (q.1 :: z.1, z.2)
      | false => turnsC still bind test elt r m1 t.2
    else none
noncomputable def only (free : List String) (m : Loc) : Loc := fun x => if x ∈ free then m x else none
/-- [elt for .. in it if test] -/
@[simp] noncomputable def comp (free : List String) (bind : V → Loc → Option Loc) (it : Ex) (test : Tx) (elt : Ex) : Ex := fun m H => (it m H).bind fun p => (S.items p.2 p.1).bind fun vs =>
  if vs.length ≤ big then (turnsC (S.stillIs p.1 vs) bind test elt vs (only free m) p.2).map fun z => (.ref z.2.length, z.2 ++ [.list z.1]) else none
/-- over range(n) -/
@[simp] noncomputable def compR (free : List String) (bind : V → Loc → Option Loc) (n : Ex) (test : Tx) (elt : Ex) : Ex := fun m H => (n m H).bind fun p => match p.1 with
  | .int k => if sm (-1000000) 1000000 k = true then (turnsC S.yes bind test elt (rangeVs 0 k) (only free m) p.2).map fun z => (.ref z.2.length, z.2 ++ [.list z.1]) else none
  | _ => none
end E
namespace T
@[simp] noncomputable def yes : Tx := fun _ H => some (true, H)
end T
noncomputable def relab (nm names : List (Str × NameKind)) : List (Str × NameKind) := names.map fun (n, k) => if (k == .free && nm.lookup n == some .cell) then (n, .cell) else (n, k)
section
variable {C : Cx} {μ : List Sl} {A : Around} {s : Shared} {H : Hp} {k : Nat} {nm : List (Str × NameKind)}
structure SimIfs (C : Cx) (k : Nat) (nm : List (Str × NameKind)) (ifs : List Expr) (f : Tx) : Prop where
  r : ∀ (A : Around) (env : Env) (s : Shared) (μ : List Sl) (H : Hp) (m : Loc), Room A k → EnvOk env → env.scope.names = nm → FR C env μ s.heap m → C.HR μ s.heap H →
    ∀ b H', f m H = some (b, H') → C.wp A (forIn ifs true fun c r => if r = true then do let ok ← isTrue c env (eval c env); pure (ForInStep.yield ok) else pure (ForInStep.yield r)) (fun v s' => v = b ∧ ∃ μ', C.Stp μ noW s μ' s' H') s
theorem SimIfs.nil : SimIfs C k nm [] T.yes := by
  refine ⟨?_⟩
  intro A env s μ H m r en hn F R b H' hf
  cases hf
  exact wpAny_tests_nil ⟨rfl, μ, .refl R⟩
theorem SimIfs.one {c : Expr} {t : Tx} (h : SimT C k nm c t) : SimIfs C k nm [c] t := by
  refine ⟨?_⟩
  intro A env s μ H m r en hn F R b H' hf
  exact wpAny_tests_one (h.r A env s μ H m r en hn F R b H' hf)
/-- a local target takes what comes -/
structure SimBL (C : Cx) (nm : List (Str × NameKind)) (target : Expr) (bind : V → Loc → Option Loc) : Prop where
  r : ∀ (A : Around) (env : Env) (s : Shared) (μ : List Sl) (H : Hp) (m m' : Loc) (X : V) (v : Value), A.handled = none → EnvOk env → env.scope.names = nm → FR C env μ s.heap m → C.HR μ s.heap H → C.VR μ s.heap X v → bind X m = some m' →
    C.wp A (assign target env v) (fun _ s' => C.Stp μ (fun a => a = env.locals) s μ s' H ∧ FR C env μ s'.heap m') s
theorem store_local0 {env : Env} {m : Loc} {x : String} {X : V} {v : Value} {Q : Unit → Shared → Prop} (e : EnvOk env) (hk : env.kindOf (Str.ofString x) = some .local) (F : FR C env μ s.heap m) (R : C.HR μ s.heap H) (hv : C.VR μ s.heap X v)
    (q : ∀ s', C.Stp μ (fun a => a = env.locals) s μ s' H → FR C env μ s'.heap (upd m x X) → Q () s') : C.wp A (storeName env (Str.ofString x) v) Q s := by
  obtain ⟨ml, ns, r0⟩ := F.ns
  refine wpAny_storeName_local hk ns (fun h' ns' hs => q _ ?_ ?_) e.hp
  · have lo := F.low env.locals (.inl rfl)
    have T : TupKeep s.heap h' := fun a o q => (hs.2 a fun z => F.notTup (.inl z) q).trans q
    refine ⟨rfl, .refl _, ⟨fun b o eb => (hs.2 b fun z => ?_).trans (R.base b o eb), by rw [hs.1]; exact R.bsz, R.len, R.low, R.apart, fun i sl o ei eo => ?_⟩, fun a o ea n w => (hs.2 a fun z => w z).trans ea, fun _ m => .inl m, by rw [hs.1]; exact Nat.le_refl _⟩
    · exact lt_no (Heap.lt_size eb) (z ▸ lo.1)
    · have mem := List.mem_of_getElem? ei
      refine (R.objs i sl o ei eo).mono T (.refl _) (fun o q => (hs.2 _ fun z => lo.2 ?_).trans q) fun o q => (hs.2 _ fun z => lo.2 ?_).trans q
      · exact z ▸ ⟨sl, mem, .inl rfl⟩
      · exact z ▸ ⟨sl, mem, .inr rfl⟩
  · exact F.setLocal R hk hs ns' r0 hv
theorem SimBL.one {x : String} {p : Pos} (hk : nm.lookup (Str.ofString x) = some .local) : SimBL C nm (.Name (Str.ofString x) p) (S.b1 x) := by
  refine ⟨?_⟩
  intro A env s μ H m m' X v hh en hn F R rv hb
  cases hb
  exact PySem.wpAny_assign_Name (store_local0 en (by rw [kindOf_nm hn, hk]) F R rv fun s' S F' => ⟨S, F'⟩)
theorem SimBL.two {x y : String} {p q pos : Pos} {n : Nat} (hx : nm.lookup (Str.ofString x) = some .local) (hy : nm.lookup (Str.ofString y) = some .local) : SimBL C nm (.Tuple [.Name (Str.ofString x) p, .Name (Str.ofString y) q] n pos) (S.b2 x y) := by
  refine ⟨?_⟩
  intro A env s μ H m m' X v hh en hn F R rv hb
  unfold S.b2 at hb
  split at hb
  · rename_i U W _
    cases hb
    cases rv with | @tup t xs _ e1 r1 => ?_
    have hl := r1.length
    show C.wp A _ _ s
    rw [PyProof.Rows.assign_Tuple]
    refine wpAny_bind (wpAny_standAt (unpackS hh (IsTup.of e1) (by rw [List.size_toArray, hl]; rfl) rfl fun h' he hz => ?_))
    have k1 : ∀ b o, s.heap.get? b = some o → h'.get? b = some o := fun b o e => he b o (Nat.ne_of_lt (Heap.lt_size e)) e
    cases r1 with | @cons _ u _ us ra r1 => ?_
    cases r1 with | @cons _ w _ ws rb r1 => ?_
    cases r1
    have S1 : C.Stp μ noW s μ { s with heap := h' } H := .grow R k1 hz s.toks
    have T1 := S1.tup0 R
    have F1 := F.stp R S1
    show C.wp A (assignInOrder [assign (.Name (Str.ofString x) p) env, assign (.Name (Str.ofString y) q) env] [u, w]) _ _
    refine assignInOrder_cons (PySem.wpAny_assign_Name (store_local0 en (by rw [kindOf_nm hn, hx]) F1 S1.hr (ra.mono T1 (.refl _)) fun s2 S2 F2 => ?_))
    have rb2 := (rb.mono T1 (.refl _)).mono (S2.tup S1.hr fun a vs z e => F1.notTup (.inl z) e) (.refl _)
    refine assignInOrder_cons (PySem.wpAny_assign_Name (store_local0 en (by rw [kindOf_nm hn, hy]) F2 S2.hr rb2 fun s3 S3 F3 => assignInOrder_nil ⟨(S1.weak0.trans S2).trans S3, F3⟩))
  · cases hb
/-- the loop of a comprehension, the target's own step kept -/
theorem compLoopT {elt target iter : Expr} {ifs : List Expr} {scope : Scope} {pos : Pos} {it acc : Value} {env : Env} {R : Result → Shared → Prop} {prog : Program} {w : World} (I : Nat → Shared → Prop)
    (turn : ∀ n s, I n s → wpAny (model prog w) A (pyNext it) (fun r s₁ => match r with
      | none => R (.ok .next) s₁
      | some v => wpAny (model prog w) A (letOwnedTupleGo target it v) (fun _ s₀ => wpAny (model prog w) A (assign target env v) (fun _ s₂ =>
          wpAny (model prog w) A (forIn ifs true fun c r => if r = true then do let ok ← isTrue c env (eval c env); pure (ForInStep.yield ok) else pure (ForInStep.yield r)) (fun ok s₃ =>
            if ok = true then wpAny (model prog w) A (eval elt env) (fun x s₄ =>
              wpAny (model prog w) A (call (.builtin "list.append") [acc, x]) (fun _ s₅ => ∃ m, m < n ∧ I m s₅) (notedBy (model prog w) A env fun e s' => R (.error e) s') s₄) (notedBy (model prog w) A env fun e s' => R (.error e) s') s₃
            else ∃ m, m < n ∧ I m s₃) (notedBy (model prog w) A env fun e s' => R (.error e) s') s₂) (notedBy (model prog w) A env fun e s' => R (.error e) s') s₀) (notedBy (model prog w) A env fun e s' => R (.error e) s') s₁) (notedBy (model prog w) A env fun e s' => R (.error e) s') s)
    (n : Nat) (h : I n s) : codeAny (model prog w) A (.compLoop (.ListComp elt [⟨target, iter, ifs, 0⟩] scope pos) 0 it acc env) R s := by
  refine codeAny_loop rfl I (fun n s hI => ?_) n h
  show wpAny _ A ((compTurn (.ListComp elt [⟨target, iter, ifs, 0⟩] scope pos) 0 it acc env).onRaise (fun x => do noteFrame x env; theTreesLotGoes x)) _ _ s
  refine wpAny_noted ?_
  rw [compTurn_list]
  refine wpAny_bind (wpAny_standAt (wpAny_bind (wpAny_mono (turn n s hI) (fun r s₁ h₁ => ?_) fun _ _ h' => h')))
  cases r with
  | none => exact wpAny_pure h₁
  | some v =>
    refine wpAny_bind (wpAny_mono h₁ (fun _ s₀ h₀ => ?_) fun _ _ h' => h')
    refine wpAny_bind (wpAny_mono h₀ (fun _ s₂ h₂ => wpAny_bind (wpAny_mono h₂ (fun ok s₃ h₃ => ?_) fun _ _ h' => h')) fun _ _ h' => h')
    cases ok with
    | false => exact wpAny_pure ⟨rfl, h₃⟩
    | true =>
      exact wpAny_bind (wpAny_bind (wpAny_mono h₃ (fun x s₄ h₄ => wpAny_bind (wpAny_mono h₄ (fun _ s₅ h₅ => wpAny_pure (wpAny_pure ⟨rfl, h₅⟩)) fun _ _ h' => h')) fun _ _ h' => h'))
/-- an untracked list is taken in -/
theorem HR.adopt {prog : Program} {w : World} {h0 h : Heap} {D n : Nat} {vs : List Value} {Vs : List V} (R : HR prog w h0 μ h H) (hD : ¬ madr μ D) (hl : h0.objs.size ≤ D) (e : h.get? D = some (listOf vs.toArray n)) (r : VRs h0 μ h Vs vs) (z : Vs.length ≤ big) :
    HR prog w h0 (μ ++ [⟨D, D⟩]) h (H ++ [.list Vs]) := by
  have old : ∀ (i : Nat) (si : Sl), (μ ++ [(⟨D, D⟩ : Sl)])[i]? = some si → i < μ.length ∧ μ[i]? = some si ∨ i = μ.length ∧ si = ⟨D, D⟩ := fun i si e => by
    by_cases hi : i < μ.length
    · rw [List.getElem?_append_left hi] at e; exact .inl ⟨hi, e⟩
    · rw [List.getElem?_append_right (by omega)] at e
      have : i - μ.length = 0 := by
        rcases Nat.eq_zero_or_pos (i - μ.length) with q | q
        · exact q
        · rw [List.getElem?_eq_none (by simp; omega)] at e; cases e
      rw [this] at e
      refine .inr ⟨by omega, ?_⟩
      cases e; rfl
  have ne : ∀ (i : Nat) (si : Sl), μ[i]? = some si → si.a ≠ D ∧ si.d ≠ D := fun i si e =>
    ⟨fun q => hD ⟨si, List.mem_of_getElem? e, .inl q.symm⟩, fun q => hD ⟨si, List.mem_of_getElem? e, .inr q.symm⟩⟩
  refine ⟨R.base, R.bsz, by simp [R.len], fun a m => ?_, fun i j si sj ei ej ij => ?_, fun i si o' ei eo => ?_⟩
  · rcases madr_snoc.mp m with m | rfl | rfl
    · exact R.low a m
    · exact hl
    · exact hl
  · rcases old i si ei with ⟨hi, fi⟩ | ⟨hi, fi⟩ <;> rcases old j sj ej with ⟨hj, fj⟩ | ⟨hj, fj⟩
    · exact R.apart i j si sj fi fj ij
    · subst fj; have z := ne i si fi; exact ⟨z.1, z.1, z.2, z.2⟩
    · subst fi; have z := ne j sj fj; exact ⟨Ne.symm z.1, Ne.symm z.2, Ne.symm z.1, Ne.symm z.2⟩
    · omega
  · rcases old i si ei with ⟨hi, ei⟩ | ⟨hi, rfl⟩
    · rw [List.getElem?_append_left (by rw [← R.len]; exact hi)] at eo
      exact (R.objs i si o' ei eo).mono (TupKeep.refl _) (Pre.snoc _ _) (fun _ e => e) fun _ e => e
    · rw [List.getElem?_append_right (by rw [← R.len]; omega)] at eo
      have : i - H.length = 0 := by rw [← R.len]; omega
      rw [this] at eo
      cases eo
      exact .list e rfl (r.mono (TupKeep.refl _) (Pre.snoc _ _)) z
theorem closure_ex {env : Env} (cells : ∀ n, nm.lookup n = some .cell → ∃ c, env.cells.lookup n = some c) : ∀ (names : List (Str × NameKind)), (names.all fun x => !(x.2 == .free) || nm.lookup x.1 == some .cell) = true → ∀ (acc : List (Str × Addr)), ∃ cl,
    (forIn names acc fun x (cs : List (Str × Addr)) => do
        let (name, kind) := x
        if (kind == NameKind.free) = true then do
          let c ← cellOf env name
          pure (ForInStep.yield ((name, c) :: cs))
        else pure (ForInStep.yield cs) : Sem (List (Str × Addr))) = pure (cl ++ acc) ∧ cl.map (·.1) = ((names.filter fun x => x.2 == .free).map (·.1)).reverse ∧ ∀ n c, (n, c) ∈ cl → env.cells.lookup n = some c
  | [], _, acc => ⟨[], rfl, rfl, fun _ _ h => by cases h⟩
  | (n, kd) :: r, h, acc => by
    simp only [List.all_cons, Bool.and_eq_true] at h
    cases hk : kd == NameKind.free with
    | false =>
      obtain ⟨cl, e, e2, e3⟩ := closure_ex cells r h.2 acc
      refine ⟨cl, ?_, by simp [hk, e2], e3⟩
      rw [List.forIn_cons]
      simp only [hk, Bool.false_eq_true, if_false]
      exact e
    | true =>
      have h1 := h.1
      simp only [hk, Bool.not_true, Bool.false_or, beq_iff_eq] at h1
      obtain ⟨c, hc⟩ := cells n h1
      obtain ⟨cl, e, e2, e3⟩ := closure_ex cells r h.2 ((n, c) :: acc)
      refine ⟨cl ++ [(n, c)], ?_, by simp [hk, e2], fun n' c' hm => ?_⟩
      · rw [List.forIn_cons]
        simp only [hk, if_true]
        have : cellOf env n = pure c := by unfold cellOf; rw [hc]
        rw [this, List.append_assoc]
        exact e
      · rcases List.mem_append.mp hm with hm | hm
        · exact e3 n' c' hm
        · rw [List.mem_singleton] at hm; cases hm; exact hc
theorem closure_of {env : Env} {scope : Scope} (cells : ∀ n, nm.lookup n = some .cell → ∃ c, env.cells.lookup n = some c) (h : (scope.names.all fun x => !(x.2 == .free) || nm.lookup x.1 == some .cell) = true) : ∃ cl,
    closureFor scope env = pure cl ∧ cl.map (·.1) = ((scope.names.filter fun x => x.2 == .free).map (·.1)).reverse ∧ ∀ n c, (n, c) ∈ cl → env.cells.lookup n = some c := by
  obtain ⟨cl, e, e2, e3⟩ := closure_ex cells scope.names h []
  refine ⟨cl, ?_, e2, e3⟩
  rw [List.append_nil] at e
  have : closureFor scope env = (forIn scope.names ([] : List (Str × Addr)) fun x (cs : List (Str × Addr)) => do
        let (name, kind) := x
        if (kind == NameKind.free) = true then do
          let c ← cellOf env name
          pure (ForInStep.yield ((name, c) :: cs))
        else pure (ForInStep.yield cs) : Sem (List (Str × Addr))) >>= fun cs => pure cs := by
    unfold closureFor
    rfl
  rw [this, e]
  rfl
end
structure CompOk (nm : List (Str × NameKind)) (scope : Scope) : Prop where
  kind : scope.kind = .function
  nocell : (scope.names.all fun x => x.2 != .cell) = true
  names : (scope.names.all fun x => x.2 != .local || scope.names.lookup x.1 == some .local) = true
  frees : (scope.names.all fun x => !(x.2 == .free) || nm.lookup x.1 == some .cell) = true
  nodup : (scope.names.map (·.1)).Nodup
section
variable {C : Cx} {μ μ0 : List Sl} {A : Around} {s s0 : Shared} {H H' : Hp} {k : Nat} {nm : List (Str × NameKind)}
theorem Stp.but {W : Addr → Prop} {I : Addr} {h' : Heap} (R : C.HR μ s.heap H) (k : ∀ b o, b ≠ I → s.heap.get? b = some o → h'.get? b = some o) (z : s.heap.objs.size ≤ h'.objs.size) (n : ¬ madr μ I) (l : C.h0.objs.size ≤ I) (nt : ∀ vs, s.heap.get? I ≠ some (tupObj vs)) (hw : W I) (tk : Nat) :
    C.Stp μ W s μ { s with heap := h', toks := tk } H ∧ TupKeep s.heap h' := by
  have RT := HR.but R k z n l nt
  exact ⟨⟨rfl, .refl _, RT.1, fun a o e _ w => k a o (fun z => w (z ▸ hw)) e, fun _ m => .inl m, z⟩, RT.2⟩
theorem Stp.adopt {W : Addr → Prop} {D n : Nat} {vs : List Value} {Vs : List V} (S : C.Stp μ0 W s0 μ s H) (hD : ¬ madr μ D) (hl : s0.heap.objs.size ≤ D) (hb : C.h0.objs.size ≤ D) (e : s.heap.get? D = some (listOf vs.toArray n)) (r : C.VRs μ s.heap Vs vs) (z : Vs.length ≤ big) :
    C.Stp μ0 W s0 (μ ++ [⟨D, D⟩]) s (H ++ [.list Vs]) ∧ C.VR (μ ++ [⟨D, D⟩]) s.heap (.ref H.length) (.ref D) := by
  have hx : (μ ++ [(⟨D, D⟩ : Sl)])[H.length]? = some ⟨D, D⟩ := by rw [← S.hr.len]; simp
  refine ⟨⟨S.shape, S.pre.trans (Pre.snoc _ _), S.hr.adopt hD hb e r z, S.keep, fun a m => ?_, S.size⟩, .ref hx⟩
  rcases madr_snoc.mp m with m | rfl | rfl
  · exact S.fresh a m
  · exact .inr hl
  · exact .inr hl
theorem relab_cell : ∀ {names : List (Str × NameKind)}, (names.all fun x => x.2 != .cell) = true → ∀ {n : Str}, (relab nm names).lookup n = some .cell → n ∈ (names.filter fun x => x.2 == .free).map (·.1) ∧ nm.lookup n = some .cell
  | [], _, n, h => by cases h
  | (x, kd) :: r, hc, n, h => by
    simp only [List.all_cons, Bool.and_eq_true] at hc
    have e : relab nm ((x, kd) :: r) = (if (kd == NameKind.free && nm.lookup x == some .cell) = true then (x, NameKind.cell) else (x, kd)) :: relab nm r := rfl
    rw [e] at h
    by_cases hcond : (kd == NameKind.free && nm.lookup x == some .cell) = true
    · rw [if_pos hcond, List.lookup_cons] at h
      simp only [Bool.and_eq_true, beq_iff_eq] at hcond
      cases hn : n == x with
      | true =>
        have : n = x := by simpa using hn
        subst this
        refine ⟨?_, hcond.2⟩
        rw [List.filter_cons]
        simp [hcond.1]
      | false =>
        rw [hn] at h
        obtain ⟨a, b⟩ := relab_cell hc.2 h
        refine ⟨?_, b⟩
        rw [List.filter_cons]
        simp only [hcond.1, beq_self_eq_true, if_true, List.map_cons]
        exact List.mem_cons_of_mem _ a
    · rw [if_neg hcond, List.lookup_cons] at h
      cases hn : n == x with
      | true =>
        rw [hn] at h
        cases h
        have := hc.1
        simp at this
      | false =>
        rw [hn] at h
        obtain ⟨a, b⟩ := relab_cell hc.2 h
        refine ⟨?_, b⟩
        rw [List.filter_cons]
        split
        · exact List.mem_cons_of_mem _ a
        · exact a
theorem lookup_of_mem_fst {n : Str} : ∀ {cl : List (Str × Addr)}, n ∈ cl.map (·.1) → ∃ c, cl.lookup n = some c
  | [], h => by cases h
  | (x, c) :: r, h => by
    rw [List.lookup_cons]
    cases hn : n == x with
    | true => exact ⟨c, rfl⟩
    | false =>
      rw [List.map_cons, List.mem_cons] at h
      rcases h with h | h
      · simp only at h; subst h; simp at hn
      · exact lookup_of_mem_fst h
theorem pair_of_nodup {env : Env} (ap : env.cells.Pairwise fun x y => x.2 ≠ y.2) : ∀ {cl : List (Str × Addr)}, (cl.map (·.1)).Nodup → (∀ n c, (n, c) ∈ cl → env.cells.lookup n = some c) → cl.Pairwise fun x y => x.2 ≠ y.2
  | [], _, _ => .nil
  | (n, c) :: r, h, e => by
    rw [List.map_cons, List.nodup_cons] at h
    refine .cons (fun y hy q => h.1 ?_) (pair_of_nodup ap h.2 fun n' c' hm => e n' c' (List.mem_cons_of_mem _ hm))
    obtain ⟨n', c'⟩ := y
    simp only at q
    subst q
    have h1 := mem_of_lookup (e n c List.mem_cons_self)
    have h2 := mem_of_lookup (e n' c (List.mem_cons_of_mem _ hy))
    have : n = n' := name_of_addr ap h1 h2
    subst this
    exact List.mem_map.mpr ⟨_, hy, rfl⟩
theorem relabel_names {env : Env} {scope : Scope} (en : EnvOk env) (hn : env.scope.names = nm) : (relabel scope env).names = relab nm scope.names := by
  unfold relabel relab
  apply List.map_congr_left
  intro x _
  obtain ⟨n, kd⟩ := x
  have h1 : (env.scope.kind == ScopeKind.function) = true := by rw [en.kind]; rfl
  simp only [h1, Bool.and_true, kindOf_nm hn]
/-- what the turns of a comprehension come to -/
inductive TurnedC (still : Hp → Bool) (bind : V → Loc → Option Loc) (test : Tx) (elt : Ex) (X : V) (r : List V) (m : Loc) (H : Hp) (z : List V × Hp) : Prop
  | yes {m1 : Loc} {H2 H3 H4 : Hp} {u : V} {ys : List V} : bind X m = some m1 → test m1 H = some (true, H2) → elt m1 H2 = some (u, H3) → E.turnsC still bind test elt r m1 H3 = some (ys, H4) → z = (u :: ys, H4) → TurnedC still bind test elt X r m H z
  | no {m1 : Loc} {H2 : Hp} : bind X m = some m1 → test m1 H = some (false, H2) → E.turnsC still bind test elt r m1 H2 = some z → TurnedC still bind test elt X r m H z
section
variable {still : Hp → Bool} {bind : V → Loc → Option Loc} {test : Tx} {elt : Ex} {m : Loc} {z : List V × Hp} {X : V} {r : List V}
theorem turnsC_nil (h : E.turnsC still bind test elt [] m H = some z) : still H = true ∧ z = ([], H) := ⟨(still_of h).1, (Option.some.inj (still_of h).2).symm⟩
theorem turnsC_cons (h : E.turnsC still bind test elt (X :: r) m H = some z) : still H = true ∧ TurnedC still bind test elt X r m H z := by
  obtain ⟨hs, h⟩ := still_of h
  obtain ⟨m1, e1, h⟩ := Option.bind_eq_some_iff.mp h
  obtain ⟨⟨b, H2⟩, e2, h⟩ := Option.bind_eq_some_iff.mp h
  refine ⟨hs, ?_⟩
  cases b with
  | false => exact .no e1 e2 h
  | true =>
    obtain ⟨⟨u, H3⟩, e3, h⟩ := Option.bind_eq_some_iff.mp h
    obtain ⟨⟨ys, H4⟩, e4, h⟩ := Option.map_eq_some_iff.mp h
    exact .yes e1 e2 e3 e4 h.symm
end
/-- a comprehension's loop -/
structure GX where
  C : Cx
  A : Around
  I : Addr
  D : Addr
  vs : List V
  still : Hp → Bool
  St : Nat → Heap → Prop
  Pm : List Sl → Heap → Prop
  env : Env
  bind : V → Loc → Option Loc
  test : Tx
  ef : Ex
  Xs : List V
  H' : Hp
  s : Shared
  μ : List Sl
noncomputable def GX.W (X : GX) (a : Addr) : Prop := a = X.env.locals ∨ a = X.I ∨ a = X.D
structure GX.Ok (X : GX) : Prop where
  It : Iter X.C X.A X.I X.vs X.still X.St X.Pm
  base : ∀ a, X.W a → X.C.h0.objs.size ≤ a
  offs : ∀ a, X.W a → ¬ madr X.μ a
  low : ∀ a, X.W a → a < X.s.heap.objs.size
  fI : ¬ FA X.env X.I
  fD : ¬ FA X.env X.D
  ne : X.I ≠ X.D
  nl : X.I ≠ X.env.locals
  dl : X.D ≠ X.env.locals
  len : X.vs.length ≤ big
theorem GX.wI {X : GX} : X.W X.I := .inr (.inl rfl)
theorem GX.wD {X : GX} : X.W X.D := .inr (.inr rfl)
theorem GX.wl {X : GX} : X.W X.env.locals := .inl rfl
/-- how far it is -/
structure GX.At (X : GX) (i : Nat) (s1 : Shared) (μ1 : List Sl) (H1 : Hp) (m1 : Loc) (don : List V) (xs : List Value) (n : Nat) : Prop where
  sp : X.C.Stp X.μ X.W X.s μ1 s1 H1
  F : FR X.C X.env μ1 s1.heap m1
  st : X.St i s1.heap
  pm : X.Pm μ1 s1.heap
  acc : s1.heap.get? X.D = some (listOf xs.toArray n)
  r : X.C.VRs μ1 s1.heap don xs
  le : don.length ≤ i
structure GX.Go (X : GX) (i : Nat) (H1 : Hp) (m1 : Loc) (don rest : List V) : Prop where
  t : E.turnsC X.still X.bind X.test X.ef (X.vs.drop i) m1 H1 = some (rest, X.H')
  e : X.Xs = don ++ rest
inductive GX.Inv (X : GX) (j : Nat) (s1 : Shared) : Prop
  | mk (i : Nat) (μ1 : List Sl) (H1 : Hp) (m1 : Loc) (don : List V) (xs : List Value) (n : Nat) (rest : List V) (hi : i ≤ X.vs.length) (e : j = X.vs.length + 1 - i) (a : X.At i s1 μ1 H1 m1 don xs n) (g : X.Go i H1 m1 don rest) : X.Inv j s1
/-- the end of the loop -/
structure GX.End (X : GX) (μ1 : List Sl) (s1 : Shared) (xs : List Value) (n : Nat) : Prop where
  sp : X.C.Stp X.μ X.W X.s μ1 s1 X.H'
  ns : ∃ mm, s1.heap.Ns X.env.locals mm
  acc : s1.heap.get? X.D = some (listOf xs.toArray n)
  r : X.C.VRs μ1 s1.heap X.Xs xs
  len : X.Xs.length ≤ big
/-- one thing has moved -/
structure GX.Adv (X : GX) (s1 : Shared) (μ1 : List Sl) (H1 : Hp) (m1 : Loc) (h' : Heap) (tk : Nat) : Prop where
  sp : X.C.Stp μ1 X.W s1 μ1 { s1 with heap := h', toks := tk } H1
  F : FR X.C X.env μ1 h' m1
  T : TupKeep s1.heap h'
section
variable {X : GX} {i n : Nat} {s1 s4 : Shared} {μ1 μ4 : List Sl} {H1 H4 : Hp} {m1 m4 : Loc} {don : List V} {xs : List Value} {h' : Heap} {tk : Nat}
theorem GX.off (ok : X.Ok) (a : X.C.Stp X.μ X.W X.s μ1 s1 H1) {b : Addr} (w : X.W b) : ¬ madr μ1 b := fun e => (a.fresh b e).elim (ok.offs b w) (lt_no (ok.low b w))
theorem GX.adv (ok : X.Ok) (a : X.C.Stp X.μ X.W X.s μ1 s1 H1) (F : FR X.C X.env μ1 s1.heap m1) {b : Addr} (w : X.W b) (f : ¬ FA X.env b) (nt : ∀ vs, s1.heap.get? b ≠ some (tupObj vs)) (k1 : ∀ c o, c ≠ b → s1.heap.get? c = some o → h'.get? c = some o) (hz : s1.heap.objs.size ≤ h'.objs.size) : X.Adv s1 μ1 H1 m1 h' tk :=
  have z := Stp.but (C := X.C) (W := X.W) a.hr k1 hz (GX.off ok a w) (ok.base b w) nt w tk
  ⟨z.1, F.keeps (fun a g o e => k1 a o (fun z => f (z ▸ g)) e) z.2 (.refl _) fun a m => .inl m, z.2⟩
theorem GX.At.adv (ok : X.Ok) (a : X.At i s1 μ1 H1 m1 don xs n) (k1 : ∀ b o, b ≠ X.I → s1.heap.get? b = some o → h'.get? b = some o) (hz : s1.heap.objs.size ≤ h'.objs.size) : X.Adv s1 μ1 H1 m1 h' tk := GX.adv ok a.sp a.F GX.wI ok.fI (ok.It.notTup a.st) k1 hz
/-- after the target and the test -/
theorem GX.At.tested (ok : X.Ok) (a : X.At i s1 μ1 H1 m1 don xs n) (v : X.Adv s1 μ1 H1 m1 h' tk) (k1 : ∀ b o, b ≠ X.I → s1.heap.get? b = some o → h'.get? b = some o) (st2 : X.St (i + 1) h') (sp : X.C.Stp μ1 (fun a => a = X.env.locals) { s1 with heap := h', toks := tk } μ4 s4 H4) (F4 : FR X.C X.env μ4 s4.heap m4) : X.At (i + 1) s4 μ4 H4 m4 don xs n :=
  have T := v.T.trans (sp.tup v.sp.hr fun a vs z e => v.F.notTup (.inl z) e)
  ⟨(a.sp.trans v.sp).trans (sp.weak fun _ h => .inl (.inl h)), F4, ok.It.keep (i + 1) h' s4.heap st2 fun o e => sp.keep X.I o e (GX.off ok a.sp GX.wI) ok.nl, ok.It.pm μ1 μ4 s1.heap s4.heap a.pm sp.pre T,
    sp.keep X.D _ (k1 X.D _ (Ne.symm ok.ne) a.acc) (GX.off ok a.sp GX.wD) ok.dl, a.r.mono T sp.pre, Nat.le_succ_of_le a.le⟩
/-- after an item is put in -/
theorem GX.At.put (ok : X.Ok) (a : X.At i s1 μ1 H1 m1 don xs n) (hd : don.length + 1 ≤ i) (sp : X.C.Stp μ1 noW s1 μ4 s4 H4) {h5 : Heap} (hs : Heap.SameBut X.D s4.heap h5) {x : Value} {u : V} (e5 : h5.get? X.D = some (listOf (xs.toArray.push x) (n + 1))) (r4 : X.C.VR μ4 s4.heap u x) :
    X.At i { s4 with heap := h5 } μ4 H4 m1 (don ++ [u]) (xs ++ [x]) (n + 1) :=
  have T4 := sp.tup0 a.sp.hr
  have S4 := a.sp.trans sp.weak0
  have D4 := sp.keep X.D _ a.acc (GX.off ok a.sp GX.wD) fun e => e
  have v : X.Adv s4 μ4 H4 m1 h5 s4.toks := GX.adv ok S4 (a.F.stp a.sp.hr sp) GX.wD ok.fD (fun vs e => ne_list (congrArg Obj.cls (Option.some.inj (D4.symm.trans e)))) (fun b o hb e => (hs.2 b hb).trans e) (Nat.le_of_eq hs.1.symm)
  ⟨S4.trans v.sp, v.F, ok.It.keep i s1.heap h5 a.st fun o e => (hs.2 _ ok.ne).trans (sp.keep X.I o e (GX.off ok a.sp GX.wI) fun e => e), ok.It.pm μ1 μ4 s1.heap h5 a.pm sp.pre (T4.trans v.T), e5.trans (by rw [List.push_toArray]),
    ((a.r.mono T4 sp.pre).append (.cons r4 .nil)).mono v.T (.refl _), by rw [List.length_append]; exact hd⟩
end
theorem comp_loop {target elt iter : Expr} {ifs : List Expr} {scope : Scope} {pos : Pos} (X : GX) (ok : X.Ok) (hB : SimBL X.C nm target X.bind) (hT : SimIfs X.C k nm ifs X.test) (hE : SimE X.C k nm elt X.ef) (r : Room X.A k) (en : EnvOk X.env) (hn : X.env.scope.names = nm) {m : Loc} {n : Nat}
    (a : X.At 0 X.s X.μ H m [] [] n) (g : X.Go 0 H m [] X.Xs) {RR : Result → Shared → Prop} (q : ∀ μ1 s1 xs n, X.End μ1 s1 xs n → RR (.ok .next) s1) :
    codeAny (model X.C.prog X.C.w) X.A (.compLoop (.ListComp elt [⟨target, iter, ifs, 0⟩] scope pos) 0 (.ref X.I) (.ref X.D) X.env) RR X.s := by
  refine compLoopT X.Inv (fun j s1 z => ?_) (X.vs.length + 1) ⟨0, X.μ, H, m, [], [], n, X.Xs, Nat.zero_le _, rfl, a, g⟩
  cases z with | mk i μ1 H1 m1 don xs n rest hi e a g => ?_
  subst e
  by_cases hlast : i = X.vs.length
  · subst hlast
    have t := g.t
    rw [List.drop_length] at t
    obtain ⟨hs, e⟩ := turnsC_nil t
    have e0 := g.e
    rw [(Prod.mk.inj e).1, List.append_nil] at e0
    refine wp_any (with_size (ok.It.done s1 μ1 _ _ a.st a.pm a.sp.hr hs fun h' tk k1 hz => ?_))
    have v := a.adv (tk := tk) ok k1 hz
    obtain ⟨mm, ns, _⟩ := a.F.ns
    exact q μ1 _ xs n ⟨(Prod.mk.inj e).2 ▸ a.sp.trans v.sp, ⟨mm, ns.at' fun o e => k1 _ o (Ne.symm ok.nl) e⟩, k1 _ _ (Ne.symm ok.ne) a.acc, e0 ▸ a.r.mono v.T (.refl _), e0 ▸ Nat.le_trans a.le ok.len⟩
  · have hlt2 : i < X.vs.length := Nat.lt_of_le_of_ne hi hlast
    have t := g.t
    rw [List.drop_eq_getElem_cons hlt2] at t
    obtain ⟨hs, t⟩ := turnsC_cons t
    have eX := g.e
    refine wp_any (with_size (ok.It.item i s1 μ1 H1 _ _ (List.getElem?_eq_getElem hlt2) a.st a.pm a.sp.hr hs fun v h' tk rv st2 k1 hz => ?_))
    have d := a.adv (tk := tk) ok k1 hz
    obtain ⟨o2, n2, fs2, ho2, hc2, hd2, how2, _⟩ := ok.It.kind (i + 1) h' st2
    refine wp_any (letOwned (C := X.C) (s := { s1 with heap := h', toks := tk }) ho2 hc2 hd2 how2 ?_)
    clear ho2 hc2 hd2 how2 hz hlast q g
    have rv2 := rv.mono d.T (.refl _)
    have le := a.le
    cases t with
    | no e1 e2 e3 =>
      refine wp_any (wp_mono (hB.r X.A X.env { s1 with heap := h', toks := tk } μ1 H1 m1 _ _ v r.handled en hn d.F d.sp.hr rv2 e1) fun _ s3 z => wp_any (wp_mono (hT.r X.A X.env s3 μ1 H1 _ r en hn z.2 z.1.hr _ _ e2) fun b s4 y => ?_))
      obtain ⟨rfl, μ4, S4⟩ := y
      rw [if_neg (by decide)]
      exact ⟨_, ar_turn hlt2, i + 1, μ4, _, _, don, xs, n, rest, hlt2, rfl, a.tested ok d k1 st2 (z.1.trans S4.weak0) (z.2.stp z.1.hr S4), e3, eX⟩
    | yes e1 e2 e3 e4 e5 =>
      refine wp_any (wp_mono (hB.r X.A X.env { s1 with heap := h', toks := tk } μ1 H1 m1 _ _ v r.handled en hn d.F d.sp.hr rv2 e1) fun _ s3 z => wp_any (wp_mono (hT.r X.A X.env s3 μ1 H1 _ r en hn z.2 z.1.hr _ _ e2) fun b s4 y => ?_))
      obtain ⟨rfl, μ4, S4⟩ := y
      rw [if_pos rfl]
      have a4 := a.tested ok d k1 st2 (z.1.trans S4.weak0) (z.2.stp z.1.hr S4)
      rw [(Prod.mk.inj e5).1] at eX
      clear a d k1 st2 z S4 rv rv2 e1 e2 hB hT
      refine wp_any (wp_mono (hE.r X.A X.env s4 μ4 _ _ r en hn a4.F a4.sp.hr _ _ e3) fun x s5 y => ?_)
      obtain ⟨μ5, S5, r5⟩ := y
      have D5 := S5.keep X.D _ a4.acc (GX.off ok a4.sp GX.wD) fun e => e
      refine wp_any (C := X.C) (append_at D5 (fun h6 hs6 e6 => ?_) (by rw [List.size_toArray, a4.r.length]; exact Nat.le_trans (Nat.le_trans le (Nat.le_of_lt hlt2)) (Nat.le_trans ok.len (by decide))))
      exact ⟨_, ar_turn hlt2, i + 1, μ5, _, _, don ++ [_], xs ++ [x], n + 1, _, hlt2, rfl, a4.put ok (Nat.succ_le_succ le) S5 hs6 e6 r5, e4.trans (by rw [(Prod.mk.inj e5).2]), by rw [eX, List.append_assoc]; rfl⟩
/-- the inner frame -/
theorem comp_FR {scope : Scope} {cl : List (Str × Addr)} {free : List String} {env : Env} {m : Loc} {h1 : Heap} {CL : Addr} {ml : Str → Option Value} (hok : CompOk nm scope) (hfr : ∀ x ∈ free, nm.lookup (Str.ofString x) = some .cell ∧ (relab nm scope.names).lookup (Str.ofString x) = some .cell)
    (hcl2 : cl.map (·.1) = ((scope.names.filter fun x => x.2 == .free).map (·.1)).reverse) (hcl3 : ∀ n c, (n, c) ∈ cl → env.cells.lookup n = some c) (hn : env.scope.names = nm) (cnm : (compEnvC scope cl CL env).scope.names = relab nm scope.names)
    (F : FR C env μ h1 m) (ns : h1.Ns CL ml) (fC : ¬ FA env CL) (bC : C.h0.objs.size ≤ CL) (mC : ¬ madr μ CL) : FR C (compEnvC scope cl CL env) μ h1 (E.only free m) := by
  have hhas : ∀ n, (relab nm scope.names).lookup n = some .cell → ∃ c, cl.lookup n = some c ∧ env.cells.lookup n = some c ∧ nm.lookup n = some .cell := fun n h => by
    obtain ⟨a, b⟩ := relab_cell hok.nocell h
    obtain ⟨c, hc⟩ := lookup_of_mem_fst (show n ∈ cl.map (·.1) by rw [hcl2]; exact List.mem_reverse.mpr a)
    exact ⟨c, hc, hcl3 n c (mem_of_lookup hc), b⟩
  have hx : ∀ {x X}, E.only free m x = some X → x ∈ free ∧ m x = some X := fun {x X} e => by
    unfold E.only at e
    by_cases h : x ∈ free
    · rw [if_pos h] at e; exact ⟨h, e⟩
    · rw [if_neg h] at e; cases e
  refine ⟨⟨ml, ns, fun x X e hk => ?_⟩, fun x X e hk => ?_, fun n hk => ?_, fun n c hm => F.ex n c (mem_of_lookup (hcl3 n c hm)), pair_of_nodup (cl := cl) F.apart (by rw [hcl2]; unfold List.Nodup; rw [List.pairwise_reverse]; exact (List.Nodup.sublist (List.Sublist.map _ List.filter_sublist) hok.nodup).imp fun h => Ne.symm h) hcl3, fun n c hm q => fC (.inr ⟨n, by have := mem_of_lookup (hcl3 n c hm); rw [q] at this; exact this⟩), fun a f => ?_⟩
  · rw [kindOf_nm cnm, (hfr x (hx e).1).2] at hk; cases hk
  · rw [kindOf_nm cnm] at hk
    obtain ⟨c, a, b, d⟩ := hhas _ hk
    obtain ⟨c', v, a', b', d'⟩ := F.cell x X (hx e).2 (by rw [kindOf_nm hn]; exact d)
    cases b.symm.trans a'
    exact ⟨c, v, a, b', d'⟩
  · rw [kindOf_nm cnm] at hk
    exact let ⟨c, a, _⟩ := hhas n hk; ⟨c, a⟩
  · rcases f with rfl | ⟨n, hm⟩
    · exact ⟨bC, mC⟩
    · exact F.low a (.inr ⟨n, mem_of_lookup (hcl3 n a hm)⟩)
theorem comp_FA {scope : Scope} {cl : List (Str × Addr)} {env : Env} {CL a : Addr} (hcl3 : ∀ n c, (n, c) ∈ cl → env.cells.lookup n = some c) (f : ¬ FA env a) (h : a ≠ CL) : ¬ FA (compEnvC scope cl CL env) a := fun g => by
  rcases g with rfl | ⟨n, hm⟩
  · exact h rfl
  · exact f (.inr ⟨n, mem_of_lookup (hcl3 n a hm)⟩)
/-- the new list and the new frame -/
structure Two (h h1 : Heap) (D : Nat) (m : Str → Option Value) : Prop where
  old : ∀ b o, h.get? b = some o → h1.get? b = some o
  size : h1.objs.size = D + 2
  acc : h1.get? D = some (listOf ([] : List Value).toArray 0)
  ns : h1.Ns (D + 1) m
theorem two_of {h h1 : Heap} {f : Obj} {m : Str → Option Value} (ns : h1.Ns (h.push { cls := .type "list", dict := none, data := .seq ([] : List Value).toArray }).objs.size m) (hs : Heap.SameBut (h.push { cls := .type "list", dict := none, data := .seq ([] : List Value).toArray }).objs.size ((h.push { cls := .type "list", dict := none, data := .seq ([] : List Value).toArray }).push f) h1) : Two h h1 h.objs.size m := by
  rw [Heap.size_push] at ns hs
  refine ⟨fun b o e => ?_, by rw [hs.1, Heap.size_push, Heap.size_push], ?_, ns⟩
  · exact (hs.2 b (Nat.ne_of_lt (Nat.lt_succ_of_lt (Heap.lt_size e)))).trans (Heap.get?_push_of_some _ (Heap.get?_push_of_some _ e))
  · exact (hs.2 _ (Nat.ne_of_lt (Nat.lt_succ_self _))).trans (Heap.get?_push_of_some _ (Heap.get?_push_size _ rfl))
/-- the loop of a comprehension over what an iterator gives -/
theorem comp_walk {target elt iter : Expr} {ifs : List Expr} {scope : Scope} {pos : Pos} {cl : List (Str × Addr)} {free : List String} {bind : V → Loc → Option Loc} {test : Tx} {ef : Ex} {I : Addr} {vs : List V} {still : Hp → Bool} {St : Nat → Heap → Prop} {Pm : List Sl → Heap → Prop} {env : Env} {m : Loc} {Xs : List V}
    (It : Iter C A I vs still St Pm) (hok : CompOk nm scope) (hB : SimBL C (relab nm scope.names) target bind) (hT : SimIfs C k (relab nm scope.names) ifs test) (hE : SimE C k (relab nm scope.names) elt ef) (hfr : ∀ x ∈ free, nm.lookup (Str.ofString x) = some .cell ∧ (relab nm scope.names).lookup (Str.ofString x) = some .cell)
    (hcl2 : cl.map (·.1) = ((scope.names.filter fun x => x.2 == .free).map (·.1)).reverse) (hcl3 : ∀ n c, (n, c) ∈ cl → env.cells.lookup n = some c)
    (r : Room A k) (en : EnvOk env) (hn : env.scope.names = nm) (F : FR C env μ s.heap m) (S0 : C.Stp μ0 noW s0 μ s H) (hvs : vs.length ≤ big)
    (hI : s0.heap.objs.size ≤ I) (hI0 : C.h0.objs.size ≤ s0.heap.objs.size) (hM : ¬ madr μ I) (hF : ¬ FA env I) (hlt : I < s.heap.objs.size) (st : St 0 s.heap) (pm : Pm μ s.heap) (hf : E.turnsC still bind test ef vs (E.only free m) H = some (Xs, H')) {RR : Value → Addr → Result → Shared → Prop}
    (q : ∀ D CL μ' s' mm, C.Stp μ0 noW s0 μ' s' (H' ++ [.list Xs]) → C.VR μ' s'.heap (.ref H'.length) (.ref D) → s'.heap.Ns CL mm → ¬ madr μ' CL → ¬ FA env CL → s0.heap.objs.size ≤ CL → RR (.ref D) CL (.ok .next) s') :
    C.wp A (newList []) (fun acc s3 => C.wp A (newFunctionEnv scope env.globals cl [] env.qual none .none (some env)) (fun cenv s4 =>
      codeAny (model C.prog C.w) A (.compStart (.ListComp elt [⟨target, iter, ifs, 0⟩] scope pos) 0 (.ref I) acc { cenv with scope := relabel scope env }) (RR acc cenv.locals) s4) s3) s := by
  have hnc : ∀ x ∈ scope.names, x.2 ≠ .cell := fun x hx e => by
    have := List.all_eq_true.mp hok.nocell x hx
    rw [e] at this
    cases this
  refine wpAny_newObj_type (wpAny_newFunctionEnv hnc (fun y hy => nomatch hy) (fun h₁ ns hsb => ?_) hok.kind) (by size_fits)
  have t := two_of ns hsb
  clear ns hsb hnc
  dsimp only
  rw [Heap.size_push]
  have R := S0.hr
  have S1 : C.Stp μ noW s μ { s with heap := h₁, toks := s.toks + 0 } H := .grow R t.old (by rw [t.size]; exact Nat.le_add_right _ 2) _
  have T1 := S1.tup0 R
  have bD : s0.heap.objs.size ≤ s.heap.objs.size := S0.size
  have fr : ∀ {a}, s.heap.objs.size ≤ a → ¬ madr μ a ∧ ¬ FA env a := fun h => ⟨fun e => lt_no (R.lt e) h, fun e => lt_no (F.lt e) h⟩
  have f0 := fr (Nat.le_refl _)
  have f1 := fr (Nat.le_succ _)
  have cnm : (compEnvC scope cl (s.heap.objs.size + 1) env).scope.names = relab nm scope.names := relabel_names en hn
  have bC := Nat.le_succ_of_le bD
  have F1 : FR C (compEnvC scope cl (s.heap.objs.size + 1) env) μ h₁ (E.only free m) := comp_FR hok hfr hcl2 hcl3 hn cnm (F.stp R S1) t.ns f1.2 (Nat.le_trans hI0 bC) f1.1
  have st1 : St 0 h₁ := It.keep 0 _ _ st fun o e => t.old _ _ e
  have pm1 : Pm μ h₁ := It.pm _ _ _ _ pm (.refl _) T1
  have sz : s.heap.objs.size + 2 ≤ h₁.objs.size := Nat.le_of_eq t.size.symm
  have ok : GX.Ok ⟨C, A, I, s.heap.objs.size, vs, still, St, Pm, compEnvC scope cl (s.heap.objs.size + 1) env, bind, test, ef, Xs, H', { s with heap := h₁, toks := s.toks + 0 }, μ⟩ :=
    ⟨It, fun a w => by rcases w with rfl | rfl | rfl; exact Nat.le_trans hI0 bC; exact Nat.le_trans hI0 hI; exact Nat.le_trans hI0 bD, fun a w => by rcases w with rfl | rfl | rfl; exact f1.1; exact hM; exact f0.1,
      fun a w => Nat.lt_of_lt_of_le (by rcases w with rfl | rfl | rfl; exact Nat.lt_succ_self _; exact Nat.lt_succ_of_lt (Nat.lt_succ_of_lt hlt); exact Nat.lt_succ_of_lt (Nat.lt_succ_self _)) sz,
      comp_FA hcl3 hF (Nat.ne_of_lt (Nat.lt_succ_of_lt hlt)), comp_FA hcl3 f0.2 (Nat.ne_of_lt (Nat.lt_succ_self _)), Nat.ne_of_lt hlt, Nat.ne_of_lt (Nat.lt_succ_of_lt hlt), Nat.ne_of_lt (Nat.lt_succ_self _), hvs⟩
  have loop : codeAny (model C.prog C.w) A (.compLoop (.ListComp elt [⟨target, iter, ifs, 0⟩] scope pos) 0 (.ref I) (.ref s.heap.objs.size) (compEnvC scope cl (s.heap.objs.size + 1) env)) (RR (.ref s.heap.objs.size) (s.heap.objs.size + 1)) { s with heap := h₁, toks := s.toks + 0 } :=
    comp_loop ⟨C, A, I, s.heap.objs.size, vs, still, St, Pm, compEnvC scope cl (s.heap.objs.size + 1) env, bind, test, ef, Xs, H', { s with heap := h₁, toks := s.toks + 0 }, μ⟩ ok hB hT hE r ⟨hok.kind, en.globals, en.builtins⟩ cnm ⟨.refl S1.hr, F1, st1, pm1, t.acc, .nil, Nat.le_refl _⟩ ⟨hf, rfl⟩ fun μ1 s1 xs n e => by
      have off : ∀ {a}, _ → ¬ madr μ1 a := fun w => GX.off ok e.sp w
      have SS : C.Stp μ0 noW s0 μ1 s1 H' := ((S0.trans S1).weak0.trans e.sp).weak fun a w => by rcases w with rfl | rfl | rfl; exact .inr bC; exact .inr hI; exact .inr bD
      obtain ⟨SA, rA⟩ := SS.adopt (off GX.wD) bD (Nat.le_trans hI0 bD) e.acc e.r e.len
      obtain ⟨mm, ns⟩ := e.ns
      exact q _ _ _ _ mm SA rA ns (fun h => (madr_snoc.mp h).elim (off GX.wl) fun h => h.elim (Nat.succ_ne_self _) (Nat.succ_ne_self _)) f1.2 bC
  exact codeAny_compStart_list loop (wp_any (C := C) (It.self 0 _ _ st1 loop))
end
section
variable {C : Cx} {μ μ0 : List Sl} {A : Around} {s s0 : Shared} {H H' : Hp} {k : Nat} {nm : List (Str × NameKind)}
noncomputable def Free (nm : List (Str × NameKind)) (scope : Scope) (free : List String) : Prop := ∀ x ∈ free, nm.lookup (Str.ofString x) = some .cell ∧ (relab nm scope.names).lookup (Str.ofString x) = some .cell
theorem comp_in {target elt iter : Expr} {ifs : List Expr} {scope : Scope} {pos p1 : Pos} {free : List String} {bind : V → Loc → Option Loc} {it : Ex} {test : Tx} {ef : Ex} {env : Env} {m : Loc} {X : V} {use : Option (Value → Sem Unit)}
    (hok : CompOk nm scope) (hi : SimE C k nm iter it) (hB : SimBL C (relab nm scope.names) target bind) (hT : SimIfs C k (relab nm scope.names) ifs test) (hE : SimE C k (relab nm scope.names) elt ef) (hfr : Free nm scope free) (hs : ∀ env x, foldedSetIterable iter env x = pure x)
    (r : Room A k) (en : EnvOk env) (hn : env.scope.names = nm) (F : FR C env μ s.heap m) (R : C.HR μ s.heap H) (hf : E.comp free bind it test ef m H = some (X, H')) {Q : Value → Shared → Prop}
    (q : ∀ D CL μ' s' mm, C.Stp μ noW s μ' s' H' → C.VR μ' s'.heap X (.ref D) → s'.heap.Ns CL mm → ¬ madr μ' CL → ¬ FA env CL → s.heap.objs.size ≤ CL → compPost (model C.prog C.w) A (fun _ _ => False) use Q (.ref D) CL (.ok .next) s') :
    C.wp A (comprehension (.ListComp elt [⟨target, iter, ifs, 0⟩] scope pos) scope env p1 (newList []) false (eval iter env) use) Q s := by
  have cells : ∀ n, nm.lookup n = some .cell → ∃ c, env.cells.lookup n = some c := fun n h => F.has n (by rw [kindOf_nm hn]; exact h)
  obtain ⟨cl, hclos, hcl2, hcl3⟩ := closure_of cells hok.frees
  unfold E.comp at hf
  obtain ⟨p, hp, h1⟩ := Option.bind_eq_some_iff.mp hf
  obtain ⟨vs, hvs, h2⟩ := Option.bind_eq_some_iff.mp h1
  split at h2
  · rename_i hz
    obtain ⟨zz, hzz, h3⟩ := Option.map_eq_some_iff.mp h2
    cases h3
    have hnames : ∀ x ∈ scope.names, x.2 = .local → scope.names.lookup x.1 = some .local := fun x hx e => by
      have := List.all_eq_true.mp hok.names x hx
      simpa [e] using this
    refine wpAny_comprehension_free rfl (hs env) hclos hok.kind hnames (wp_mono (hi.r A env s μ H m r en hn F R _ _ hp) fun v s1 z => ?_)
    obtain ⟨μ1, S1, r1⟩ := z
    have F1 := F.stp R S1
    have kp : ∀ (o b : _) (oo : Obj), s1.heap.get? b = some oo → (s1.heap.push o).get? b = some oo := fun o b oo e => Heap.get?_push_of_some _ e
    have new : ¬ madr μ1 s1.heap.objs.size := fun e => lt_no (S1.hr.lt e) (Nat.le_refl _)
    have newF : ¬ FA env s1.heap.objs.size := fun e => lt_no (F1.lt e) (Nat.le_refl _)
    obtain ⟨Y, H1⟩ := p
    dsimp only at r1 hvs hzz S1
    unfold S.items at hvs
    split at hvs
    · cases hvs
      cases r1 with | @tup t xs _ e1 rr => ?_
      refine iter_tuple (IsTup.of e1) ?_
      have S2 : C.Stp μ1 noW s1 μ1 { s1 with heap := s1.heap.push { cls := .type "tuple_iterator", data := .fields #[.ref t, .int 0 0] } } H1 := .grow S1.hr (kp _) (by rw [Heap.size_push]; exact Nat.le_succ _) _
      exact comp_walk (Iter.tuple (xs := xs) r.handled) hok hB hT hE hfr hcl2 hcl3 r en hn (F1.stp S1.hr S2) (S1.trans S2) hz S1.size R.bsz new newF (by rw [Heap.size_push]; exact Nat.lt_succ_self _) ⟨_, Heap.get?_push_size _ rfl, rfl, rfl⟩
        ⟨kp _ _ _ e1, rr.mono (S2.tup0 S1.hr) (.refl _)⟩ hzz (RR := fun acc CL => compPost (model C.prog C.w) A (fun _ _ => False) use Q acc CL) q
    · split at hvs
      · rename_i e0
        cases hvs
        cases r1 with | @ref _ sl e1 => ?_
        obtain ⟨sl', e4, o1⟩ := S1.hr.at e0
        rw [e1] at e4; injection e4 with e4; subst e4
        cases o1 with | @list xs _ _ _ a1 _ rr _ => ?_
        refine wpAny_pyIter_list (IsList.of a1) ?_
        have S2 : C.Stp μ1 noW s1 μ1 { s1 with heap := s1.heap.push { cls := .type "list_iterator", data := .fields #[.ref sl.a, .int 0 0] } } H1 := .grow S1.hr (kp _) (by rw [Heap.size_push]; exact Nat.le_succ _) _
        exact comp_walk (Iter.list r.handled (sl := sl)) hok hB hT hE hfr hcl2 hcl3 r en hn (F1.stp S1.hr S2) (S1.trans S2) hz S1.size R.bsz new newF (by rw [Heap.size_push]; exact Nat.lt_succ_self _) ⟨_, Heap.get?_push_size _ rfl, rfl, rfl⟩
          e1 hzz (RR := fun acc CL => compPost (model C.prog C.w) A (fun _ _ => False) use Q acc CL) q
      · cases hvs
    · cases hvs
  · cases h2
theorem comp_range (G : C.Ok) {target elt e : Expr} {ifs : List Expr} {scope : Scope} {pos p1 p2 p3 : Pos} {free : List String} {bind : V → Loc → Option Loc} {a : Ex} {test : Tx} {ef : Ex} {env : Env} {m : Loc} {X : V} {use : Option (Value → Sem Unit)}
    (hok : CompOk nm scope) (hi : SimE C k nm e a) (hst : notStar e = true) (hl : nm.lookup (Str.ofString "range") = some .globalImplicit) (hg : GB C "range" (.type "range")) (hB : SimBL C (relab nm scope.names) target bind) (hT : SimIfs C k (relab nm scope.names) ifs test) (hE : SimE C k (relab nm scope.names) elt ef) (hfr : Free nm scope free)
    (r : Room A k) (en : EnvOk env) (hn : env.scope.names = nm) (F : FR C env μ s.heap m) (R : C.HR μ s.heap H) (hf : E.compR free bind a test ef m H = some (X, H')) {Q : Value → Shared → Prop}
    (q : ∀ D CL μ' s' mm, C.Stp μ noW s μ' s' H' → C.VR μ' s'.heap X (.ref D) → s'.heap.Ns CL mm → ¬ madr μ' CL → ¬ FA env CL → s.heap.objs.size ≤ CL → compPost (model C.prog C.w) A (fun _ _ => False) use Q (.ref D) CL (.ok .next) s') :
    C.wp A (comprehension (.ListComp elt [⟨target, .Call (.Name (Str.ofString "range") p2) [e] [] p3, ifs, 0⟩] scope pos) scope env p1 (newList []) false (eval (.Call (.Name (Str.ofString "range") p2) [e] [] p3) env) use) Q s := by
  have cells : ∀ n, nm.lookup n = some .cell → ∃ c, env.cells.lookup n = some c := fun n h => F.has n (by rw [kindOf_nm hn]; exact h)
  obtain ⟨cl, hclos, hcl2, hcl3⟩ := closure_of cells hok.frees
  unfold E.compR at hf
  obtain ⟨p, hp, h1⟩ := Option.bind_eq_some_iff.mp hf
  split at h1
  · rename_i n e1
    split at h1
    · rename_i hz
      rw [sm_iff] at hz
      obtain ⟨zz, hzz, h3⟩ := Option.map_eq_some_iff.mp h1
      cases h3
      have hnames : ∀ x ∈ scope.names, x.2 = .local → scope.names.lookup x.1 = some .local := fun x hx e => by
        have := List.all_eq_true.mp hok.names x hx
        simpa [e] using this
      refine wpAny_comprehension_free rfl (fun _ => rfl) hclos hok.kind hnames ?_
      refine eval_Call_Name (name_GB (m := m) G en hn R hl hg (by decide) (callW (SimA.one hi hst) (.type _) r en hn F R (evs_one hp) fun vs μ1 s1 S1 r1 => ?_))
      cases r1 with | cons r1 r2 => ?_
      cases r2
      rw [e1] at r1
      cases r1 with | int _ t => ?_
      refine call_range_1 ?_
      have S2 : C.Stp μ1 noW s1 μ1 { s1 with heap := s1.heap.push { cls := .type "range", data := .fields #[.int 0 s1.toks, .int n t, .int 1 (s1.toks + 1)] }, toks := s1.toks + 1 + 1 } p.2 := .grow S1.hr (fun b o e => Heap.get?_push_of_some _ e) (by rw [Heap.size_push]; exact Nat.le_succ _) _
      have S02 := S1.trans S2
      have F2 := F.stp R S02
      generalize hs2 : { s1 with heap := s1.heap.push { cls := .type "range", data := .fields #[.int 0 s1.toks, .int n t, .int 1 (s1.toks + 1)] }, toks := s1.toks + 1 + 1 } = s2 at *
      have hr : IsRange s2.heap s1.heap.objs.size 0 n 1 s1.toks t (s1.toks + 1) := by rw [← hs2]; exact IsRange.new _ _ _ _ _ _ _
      refine wpAny_pyIter_range hr (small_one (by omega) (by omega) (by omega) (by omega)) ?_
      have S3 : C.Stp μ1 noW s2 μ1 { s2 with heap := s2.heap.push { cls := .type "range_iterator", data := .fields #[rawInt 0, rawInt (Builtin.Range.rangeSize 0 n 1), rawInt 1] } } p.2 := .grow S2.hr (fun b o e => Heap.get?_push_of_some _ e) (by rw [Heap.size_push]; exact Nat.le_succ _) _
      have new : ¬ madr μ1 s2.heap.objs.size := fun e => lt_no (S2.hr.lt e) (Nat.le_refl _)
      have newF : ¬ FA env s2.heap.objs.size := fun e => lt_no (F2.lt e) (Nat.le_refl _)
      have hsz : Builtin.Range.rangeSize 0 n 1 = ((n - 0).toNat : Int) := by rw [rangeSize_one]; split <;> omega
      refine comp_walk (Iter.range r.handled hsz) hok hB hT hE hfr hcl2 hcl3 r en hn (F2.stp S2.hr S3) (S02.trans S3) (by rw [rangeVs_length]; unfold big; omega) S02.size R.bsz new newF (by rw [Heap.size_push]; exact Nat.lt_succ_self _) ?_
        trivial hzz (RR := fun acc CL => compPost (model C.prog C.w) A (fun _ _ => False) use Q acc CL) q
      have : IsRangeIter (s2.heap.push { cls := .type "range_iterator", data := .fields #[rawInt 0, rawInt (Builtin.Range.rangeSize 0 n 1), rawInt 1] }) s2.heap.objs.size 0 (Builtin.Range.rangeSize 0 n 1) 1 := Heap.get?_push_size _ rfl
      simpa using this
    · cases h1
  · cases h1
theorem comp_val {X : V} {CL : Addr} {D : Addr} {μ' : List Sl} {s' : Shared} {mm : Str → Option Value} (R : C.HR μ s.heap H) (S : C.Stp μ noW s μ' s' H') (v : C.VR μ' s'.heap X (.ref D)) (ns : s'.heap.Ns CL mm) (nc : ¬ madr μ' CL) (hc : s.heap.objs.size ≤ CL) :
    compPost (model C.prog C.w) A (fun _ _ => False) none (fun v s' => ∃ μ', C.Stp μ noW s μ' s' H' ∧ C.VR μ' s'.heap X v) (.ref D) CL (.ok .next) s' := by
  refine ⟨mm, ns, fun h' hs => ?_⟩
  have nt : ∀ vs, s'.heap.get? CL ≠ some (tupObj vs) := fun vs e => by
    obtain ⟨o, es, ep, ho, hd, _⟩ := ns
    rw [e] at ho; cases ho; cases hd
  obtain ⟨S2, T2⟩ := Stp.but (C := C) (W := fun a => a = CL) S.hr (fun b o hb e => (hs.2 b hb).trans e) (by rw [hs.1]; exact Nat.le_refl _) nc (Nat.le_trans R.bsz hc) nt rfl s'.toks
  exact ⟨μ', (S.weak0.trans S2).weak fun a w => .inr (by rw [w]; exact hc), v.mono T2 (.refl _)⟩
theorem SimE.comp {target elt iter : Expr} {ifs : List Expr} {scope : Scope} {pos : Pos} {free : List String} {bind : V → Loc → Option Loc} {it : Ex} {test : Tx} {ef : Ex}
    (hok : CompOk nm scope) (hi : SimE C k nm iter it) (hB : SimBL C (relab nm scope.names) target bind) (hT : SimIfs C k (relab nm scope.names) ifs test) (hE : SimE C k (relab nm scope.names) elt ef) (hfr : Free nm scope free) (hs : ∀ env x, foldedSetIterable iter env x = pure x) :
    SimE C k nm (.ListComp elt [⟨target, iter, ifs, 0⟩] scope pos) (E.comp free bind it test ef) := by
  refine ⟨?_⟩
  intro A env s μ H m r en hn F R X H' hf
  show C.wp A _ _ s
  rw [eval_ListComp]
  exact comp_in hok hi hB hT hE hfr hs r en hn F R hf fun D CL μ' s' mm S v ns nc _ hc => comp_val R S v ns nc hc
theorem SimE.compR (G : C.Ok) {target elt e : Expr} {ifs : List Expr} {scope : Scope} {pos p2 p3 : Pos} {free : List String} {bind : V → Loc → Option Loc} {a : Ex} {test : Tx} {ef : Ex}
    (hok : CompOk nm scope) (hi : SimE C k nm e a) (hst : notStar e = true) (hl : nm.lookup (Str.ofString "range") = some .globalImplicit) (hg : GB C "range" (.type "range")) (hB : SimBL C (relab nm scope.names) target bind) (hT : SimIfs C k (relab nm scope.names) ifs test) (hE : SimE C k (relab nm scope.names) elt ef) (hfr : Free nm scope free) :
    SimE C k nm (.ListComp elt [⟨target, .Call (.Name (Str.ofString "range") p2) [e] [] p3, ifs, 0⟩] scope pos) (E.compR free bind a test ef) := by
  refine ⟨?_⟩
  intro A env s μ H m r en hn F R X H' hf
  show C.wp A _ _ s
  rw [eval_ListComp]
  exact comp_range G hok hi hst hl hg hB hT hE hfr r en hn F R hf fun D CL μ' s' mm S v ns nc _ hc => comp_val R S v ns nc hc
theorem comp_store {env : Env} {m : Loc} {y : String} {py : Pos} {X : V} {CL : Addr} {D : Addr} {μ' : List Sl} {s' : Shared} {mm : Str → Option Value} (en : EnvOk env) (hn : env.scope.names = nm) (hk : nm.lookup (Str.ofString y) = some .local) (F : FR C env μ s.heap m) (R : C.HR μ s.heap H) (S : C.Stp μ noW s μ' s' H') (v : C.VR μ' s'.heap X (.ref D)) (ns : s'.heap.Ns CL mm) (nc : ¬ madr μ' CL) (nf : ¬ FA env CL) (hc : s.heap.objs.size ≤ CL) :
    compPost (model C.prog C.w) A (fun _ _ => False) (some (assign (.Name (Str.ofString y) py) env)) (fun _ s' => ∃ μ', C.Stp μ (FA env) s μ' s' H' ∧ FR C env μ' s'.heap (upd m y X)) (.ref D) CL (.ok .next) s' := by
  have F1 := F.stp R S
  refine PySem.wpAny_assign_Name (store_local0 en (by rw [kindOf_nm hn, hk]) F1 S.hr v fun s2 S2 F2 => ?_)
  have ns2 : s2.heap.Ns CL mm := ns.at' fun o e => S2.keep CL o e nc (fun e => nf (.inl e))
  refine ⟨mm, ns2, fun h' hs => ?_⟩
  have nt : ∀ vs, s2.heap.get? CL ≠ some (tupObj vs) := fun vs e => by
    obtain ⟨o, es, ep, ho, hd, _⟩ := ns2
    rw [e] at ho; cases ho; cases hd
  have k3 : ∀ b o, b ≠ CL → s2.heap.get? b = some o → h'.get? b = some o := fun b o hb e => (hs.2 b hb).trans e
  obtain ⟨S3, T3⟩ := Stp.but (C := C) (W := fun a => FA env a ∨ a = CL) S2.hr k3 (by rw [hs.1]; exact Nat.le_refl _) nc (Nat.le_trans R.bsz hc) nt (.inr rfl) s2.toks
  have S2' : C.Stp μ' (fun a => FA env a ∨ a = CL) s' μ' s2 H' := S2.weak fun a w => .inl (.inl (.inl w))
  exact ⟨μ', (S.weak0.trans (S2'.trans S3)).weak fun a w => by rcases w with w | rfl; exact .inl w; exact .inr hc, F2.keeps (fun a f o e => k3 a o (fun z => nf (z ▸ f)) e) T3 (.refl _) fun a m => .inl m⟩
theorem used {y : Str} {py pos : Pos} {elt target iter : Expr} {ifs : List Expr} {scope : Scope} {spos : Pos} {env : Env} {Q : Flow → Shared → Prop} (hsw : swapsWith (.ListComp elt [⟨target, iter, ifs, 0⟩] scope pos) (some (.Name y py)) spos.line env = pure true)
    (h : C.wp A (comprehension (.ListComp elt [⟨target, iter, ifs, 0⟩] scope pos) scope env (firstIterPos [⟨target, iter, ifs, 0⟩] pos) (newList []) false (eval iter env) (some (assign (.Name y py) env))) (fun _ => Q .next) s) : C.wp A (exec (.Assign [.Name y py] (.ListComp elt [⟨target, iter, ifs, 0⟩] scope pos) spos) env) Q s := by
  show wpAny _ A _ _ _ s
  rw [exec_Assign_Name_used _ _ _ _ hsw]
  refine wpAny_bind (wpAny_standAt (wpAny_bind ?_))
  show wpAny _ A (do let _ ← comprehension (.ListComp elt [⟨target, iter, ifs, 0⟩] scope pos) scope env _ (newList []) false (eval iter env) (some (assign (.Name y py) env))) _ _ s
  exact wpAny_bind (wpAny_mono h (fun _ s' hq => wpAny_pure (wpAny_pure hq)) fun _ _ e => e)
/-- a comprehension's list, stored by the way of the comprehension itself -/
theorem SimS.asgComp {y : String} {py spos : Pos} {target elt iter : Expr} {ifs : List Expr} {scope : Scope} {pos : Pos} {free : List String} {bind : V → Loc → Option Loc} {it : Ex} {test : Tx} {ef : Ex} (hk : nm.lookup (Str.ofString y) = some .local)
    (hok : CompOk nm scope) (hi : SimE C k nm iter it) (hB : SimBL C (relab nm scope.names) target bind) (hT : SimIfs C k (relab nm scope.names) ifs test) (hE : SimE C k (relab nm scope.names) elt ef) (hfr : Free nm scope free) (hs : ∀ env x, foldedSetIterable iter env x = pure x)
    (hsw : ∀ env : Env, EnvOk env → env.scope.names = nm → swapsWith (.ListComp elt [⟨target, iter, ifs, 0⟩] scope pos) (some (.Name (Str.ofString y) py)) spos.line env = pure true) :
    SimS C k nm (.Assign [.Name (Str.ofString y) py] (.ListComp elt [⟨target, iter, ifs, 0⟩] scope pos) spos) (S.asg y (E.comp free bind it test ef)) := by
  refine ⟨?_⟩
  intro A env s μ H m r en hn F R fl m' H' hf
  unfold S.asg at hf
  obtain ⟨q, hq, hf⟩ := Option.map_eq_some_iff.mp hf
  cases hf
  refine used (hsw env en hn) (wp_mono (comp_in hok hi hB hT hE hfr hs r en hn F R hq fun D CL μ' s' mm S v ns nc nf hc => comp_store en hn hk F R S v ns nc nf hc) fun _ s2 z => ?_)
  obtain ⟨μ2, S2, F2⟩ := z
  exact ⟨μ2, S2, F2, trivial⟩
theorem SimS.asgCompR (G : C.Ok) {y : String} {py spos : Pos} {target elt e : Expr} {ifs : List Expr} {scope : Scope} {pos p2 p3 : Pos} {free : List String} {bind : V → Loc → Option Loc} {a : Ex} {test : Tx} {ef : Ex} (hk : nm.lookup (Str.ofString y) = some .local)
    (hok : CompOk nm scope) (hi : SimE C k nm e a) (hst : notStar e = true) (hl : nm.lookup (Str.ofString "range") = some .globalImplicit) (hg : GB C "range" (.type "range")) (hB : SimBL C (relab nm scope.names) target bind) (hT : SimIfs C k (relab nm scope.names) ifs test) (hE : SimE C k (relab nm scope.names) elt ef) (hfr : Free nm scope free)
    (hsw : ∀ env : Env, EnvOk env → env.scope.names = nm → swapsWith (.ListComp elt [⟨target, .Call (.Name (Str.ofString "range") p2) [e] [] p3, ifs, 0⟩] scope pos) (some (.Name (Str.ofString y) py)) spos.line env = pure true) :
    SimS C k nm (.Assign [.Name (Str.ofString y) py] (.ListComp elt [⟨target, .Call (.Name (Str.ofString "range") p2) [e] [] p3, ifs, 0⟩] scope pos) spos) (S.asg y (E.compR free bind a test ef)) := by
  refine ⟨?_⟩
  intro A env s μ H m r en hn F R fl m' H' hf
  unfold S.asg at hf
  obtain ⟨q, hq, hf⟩ := Option.map_eq_some_iff.mp hf
  cases hf
  refine used (hsw env en hn) (wp_mono (comp_range G hok hi hst hl hg hB hT hE hfr r en hn F R hq fun D CL μ' s' mm S v ns nc nf hc => comp_store en hn hk F R S v ns nc nf hc) fun _ s2 z => ?_)
  obtain ⟨μ2, S2, F2⟩ := z
  exact ⟨μ2, S2, F2, trivial⟩
end
section
variable {C : Cx} {μ μ0 : List Sl} {A : Around} {s s0 : Shared} {H H' : Hp} {k : Nat} {nm : List (Str × NameKind)}
theorem cellsFrom_keys : ∀ (names : List (Str × NameKind)) (n : Nat) (acc : List (Str × Addr)), (cellsFrom n names acc).map (·.1) = ((names.filter fun x => x.2 == .cell).map (·.1)).reverse ++ acc.map (·.1)
  | [], _, _ => rfl
  | (x, kd) :: r, n, acc => by
    unfold cellsFrom
    rw [List.filter_cons]
    split
    · rw [cellsFrom_keys r (n + 1) _]
      simp
    · exact cellsFrom_keys r n acc
theorem mem_filter_of_lookup {n : Str} {kd : NameKind} : ∀ {names : List (Str × NameKind)}, names.lookup n = some kd → n ∈ (names.filter fun x => x.2 == kd).map (·.1)
  | [], h => by cases h
  | (x, k') :: r, h => by
    rw [List.lookup_cons] at h
    cases hn : n == x with
    | true =>
      rw [hn] at h
      cases h
      have : n = x := by simpa using hn
      subst this
      rw [List.filter_cons]
      simp
    | false =>
      rw [hn] at h
      have := mem_filter_of_lookup h
      rw [List.filter_cons]
      split
      · exact List.mem_cons_of_mem _ this
      · exact this
theorem lookup_nodup {n : Str} {c : Addr} : ∀ {l : List (Str × Addr)}, (l.map (·.1)).Nodup → (n, c) ∈ l → l.lookup n = some c
  | [], _, h => by cases h
  | (x, d) :: r, hn, h => by
    rw [List.map_cons, List.nodup_cons] at hn
    rw [List.lookup_cons]
    rcases List.mem_cons.mp h with h | h
    · cases h; simp
    · have : n ≠ x := fun e => hn.1 (e ▸ List.mem_map.mpr ⟨_, h, rfl⟩)
      have : (n == x) = false := by simpa using this
      rw [this]
      exact lookup_nodup hn.2 h
theorem bindL_skip {kf : Str → Option NameKind} {n : Str} : ∀ (binds : List (Str × Value)) (m : Str → Option Value), n ∉ binds.map (·.1) → bindL kf binds m n = m n
  | [], _, _ => rfl
  | (x, v) :: r, m, h => by
    rw [List.map_cons, List.mem_cons, not_or] at h
    unfold bindL
    rw [bindL_skip r _ h.2]
    split
    · simp only; rw [if_neg h.1]
    · rfl
theorem bindL_get {kf : Str → Option NameKind} {n : Str} {v : Value} : ∀ (binds : List (Str × Value)) (m : Str → Option Value), (binds.map (·.1)).Nodup → (n, v) ∈ binds → kf n = some .local → bindL kf binds m n = some v
  | [], _, _, h, _ => by cases h
  | (x, u) :: r, m, hn, h, hk => by
    rw [List.map_cons, List.nodup_cons] at hn
    unfold bindL
    rcases List.mem_cons.mp h with h | h
    · cases h
      rw [bindL_skip r _ hn.1, if_pos hk]
      simp
    · exact bindL_get r _ hn.2 h hk
theorem bindC_skip {kf : Str → Option NameKind} {n : Str} : ∀ (binds : List (Str × Value)) (m : Str → Option Value), n ∉ binds.map (·.1) → bindC kf binds m n = m n
  | [], _, _ => rfl
  | (x, v) :: r, m, h => by
    rw [List.map_cons, List.mem_cons, not_or] at h
    unfold bindC
    rw [bindC_skip r _ h.2]
    split
    · rfl
    · simp only; rw [if_neg h.1]
theorem bindC_get {kf : Str → Option NameKind} {n : Str} {v : Value} : ∀ (binds : List (Str × Value)) (m : Str → Option Value), (binds.map (·.1)).Nodup → (n, v) ∈ binds → kf n = some .cell → bindC kf binds m n = some v
  | [], _, _, h, _ => by cases h
  | (x, u) :: r, m, hn, h, hk => by
    rw [List.map_cons, List.nodup_cons] at hn
    unfold bindC
    rcases List.mem_cons.mp h with h | h
    · cases h
      rw [bindC_skip r _ hn.1, if_neg (by rw [hk]; decide)]
      simp
    · exact bindC_get r _ hn.2 h hk
@[simp] noncomputable def args : List String → List V → Loc
  | [], _ => fun _ => none
  | _ :: _, [] => fun _ => none
  | p :: ps, X :: Xs => fun x => if x = p then some X else args ps Xs x
theorem args_mem {h0 h : Heap} : ∀ {ps : List String} {Xs : List V} {vs : List Value}, VRs h0 μ h Xs vs → ∀ {x : String} {X : V}, args ps Xs x = some X → ∃ v, (Str.ofString x, v) ∈ (ps.map Str.ofString).zip vs ∧ VR h0 μ h X v
  | [], _, _, _, _, _, e => by cases e
  | _ :: _, _, _, .nil, _, _, e => by cases e
  | p :: ps, _, _, .cons a r, x, X, e => by
    unfold args at e
    split at e
    · rename_i hx
      subst hx
      cases e
      exact ⟨_, List.mem_cons_self, a⟩
    · obtain ⟨v, m, b⟩ := args_mem r e
      exact ⟨v, List.mem_cons_of_mem _ m, b⟩
/-- a function by its parameters and its body -/
@[simp] noncomputable def fnOf (ps : List String) (b : Sx) : Fn := fun Xs H => if Xs.length = ps.length then (b (args ps Xs) H).bind fun p => match p.1 with
  | .ret v => some (v, p.2.2)
  | _ => some (.none, p.2.2)
  else none
structure FnOk (C : Cx) (a : Addr) (fd : FuncData) (ps : List String) (body : List Stmt) : Prop where
  at_ : ∃ o, C.K.lookup a = some o ∧ o.data = .func fd
  code : codeIn C.K fd.code fd.qualname = true
  body : fd.body = .stmts body
  bind : ∀ vs : List Value, vs.length = ps.length → bindArgs fd ⟨vs, []⟩ = pure ((ps.map Str.ofString).zip vs)
  clo : fd.closure = []
  glob : fd.globals = mainGlobals
  bui : fd.builtins = builtinsNs
  kind : fd.scope.kind = .function
  co : fd.scope.isCoroutine = false
  gen : fd.scope.isGenerator = false
  own : ∀ x ∈ ps, Own fd.scope.names x
  nodup : (ps.map Str.ofString).Nodup
  ndn : (fd.scope.names.map (·.1)).Nodup
theorem zip_fst {α β : Type} : ∀ {l : List α} {r : List β}, r.length = l.length → (l.zip r).map (·.1) = l
  | [], [], _ => rfl
  | [], _ :: _, h => by cases h
  | _ :: _, [], h => by cases h
  | a :: l, b :: r, h => by
    rw [List.zip_cons_cons, List.map_cons, zip_fst (by simpa using h)]
theorem SimFn.of (G : C.Ok) {a : Addr} {fd : FuncData} {ps : List String} {body : List Stmt} {b : Sx} (ok : FnOk C a fd ps body) (hb : SimSs C k fd.scope.names body b) : SimFn C (k + 1) a (fnOf ps b) := by
  refine ⟨?_⟩
  intro A s μ H Xs vs r R rv X H' hf
  unfold fnOf at hf
  split at hf
  · rename_i hlen
    obtain ⟨p, hp, hf⟩ := Option.bind_eq_some_iff.mp hf
    obtain ⟨o, hK, hd⟩ := ok.at_
    have hvl : vs.length = (ps.map Str.ofString).length := by rw [rv.length, hlen, List.length_map]
    have cellsIn : ∀ (L : Nat) (x : Str), fd.scope.names.lookup x = some .cell → ((cellsFrom L fd.scope.names []).lookup x).isSome = true := fun L x hx => by
      have : x ∈ (cellsFrom L fd.scope.names []).map (·.1) := by
        rw [cellsFrom_keys, List.map_nil, List.append_nil]
        exact List.mem_reverse.mpr (mem_filter_of_lookup hx)
      obtain ⟨c, hc⟩ := lookup_of_mem_fst this
      rw [hc]; rfl
    refine codeAny_call_cells r.d (G.X.keeps R.base _ _ hK) hd (G.lim.keeps R.base) (codeRec_of (G.X.keeps R.base) ok.code) ok.body (ok.bind vs (by rw [rv.length, hlen])) ok.clo (fun x hx => ?_) (fun s1 I => ?_) ok.co ok.gen ok.kind
    · obtain ⟨n, v⟩ := x
      have : n ∈ ((ps.map Str.ofString).zip vs).map (·.1) := List.mem_map.mpr ⟨_, hx, rfl⟩
      rw [zip_fst hvl] at this
      obtain ⟨y, hy, rfl⟩ := List.mem_map.mp this
      rcases ok.own y hy with h | h
      · exact .inl h
      · exact .inr ⟨h, cellsIn _ _ h⟩
    generalize henv : callEnvC fd s.heap.objs.size a = env at I ⊢
    have en : EnvOk env := by rw [← henv]; exact ⟨ok.kind, ok.glob, ok.bui⟩
    have hn : env.scope.names = fd.scope.names := by rw [← henv]; rfl
    have hL : env.locals = s.heap.objs.size := by rw [← henv]; rfl
    have hcl : env.cells = cellsFrom (s.heap.objs.size + 1) fd.scope.names [] := by rw [← henv]; rfl
    have hsz : s.heap.objs.size ≤ s1.heap.objs.size := Nat.le_of_lt (Nat.lt_of_le_of_lt I.toInCall.fresh I.toInCall.ns.lt)
    have S1 : C.Stp μ noW s μ s1 H := by
      obtain ⟨h', tk, e⟩ := I.toInCall.same
      have := Stp.grow (W := noW) R I.toInCall.keep hsz tk
      have e2 : s1 = { s with heap := s1.heap, toks := tk } := by rw [e]
      rw [e2]; exact this
    have T1 := S1.tup0 R
    have rv1 := rv.mono T1 (.refl _)
    have faL : ∀ c, FA env c → s.heap.objs.size ≤ c := fun c f => by
      rcases f with rfl | ⟨n, hm⟩
      · rw [hL]; exact Nat.le_refl _
      · exact Nat.le_of_lt (Nat.lt_of_le_of_lt (by rw [hL]; exact Nat.le_refl _) (I.above n c hm))
    have ndc : (env.cells.map (·.1)).Nodup := by
      rw [hcl, cellsFrom_keys, List.map_nil, List.append_nil]
      unfold List.Nodup
      rw [List.pairwise_reverse]
      exact (List.Nodup.sublist (List.Sublist.map _ List.filter_sublist) ok.ndn).imp fun h => Ne.symm h
    have nd : (((ps.map Str.ofString).zip vs).map (·.1)).Nodup := by rw [zip_fst hvl]; exact ok.nodup
    have has : ∀ n, env.kindOf n = some .cell → ∃ c, env.cells.lookup n = some c := fun n h => by
      rw [kindOf_nm hn] at h
      rw [hcl]
      exact Option.isSome_iff_exists.mp (cellsIn _ n h)
    have F1 : FR C env μ s1.heap (args ps Xs) := by
      refine ⟨⟨_, I.toInCall.ns, fun x X e hk => ?_⟩, fun x X e hk => ?_, has, fun n c hm => ⟨_, I.cell n c (lookup_nodup ndc hm)⟩, I.apart, fun n c hm q => ?_, fun c f => ⟨Nat.le_trans R.bsz (faL c f), fun m => lt_no (R.lt m) (faL c f)⟩⟩
      · obtain ⟨v, m, rr⟩ := args_mem rv1 e
        exact ⟨v, bindL_get _ _ nd m hk, rr⟩
      · obtain ⟨v, m, rr⟩ := args_mem rv1 e
        obtain ⟨c, hc⟩ := has _ hk
        have := I.cell _ c hc
        rw [bindC_get _ _ nd m hk] at this
        exact ⟨c, v, hc, this, rr⟩
      · have := I.above n c hm
        rw [q] at this
        exact Nat.lt_irrefl _ this
    refine wp_any (wp_mono (hb.r (A.deeper env) env s1 μ H _ (r.deeper env) en hn F1 S1.hr _ _ _ hp) fun f s2 z => ?_)
    obtain ⟨μ2, S2, F2, r2⟩ := z
    have S12 : C.Stp μ noW s μ2 s2 p.2.2 := (S1.weak0.trans S2).weak fun c f => .inr (faL c f)
    split at hf
    · rename_i v e
      cases hf
      rw [e] at r2
      cases f <;> first | exact r2.elim | exact ⟨μ2, _, rfl, S12, r2⟩
    · rename_i e
      cases hf
      revert r2 e
      cases p.1 <;> intro r2 e <;> cases f <;> first | exact r2.elim | exact absurd rfl (e _) | exact ⟨μ2, _, rfl, S12, .none⟩
  · cases hf
end
namespace E
/-- a or b or .., of bools -/
@[simp] noncomputable def bor : List Ex → Ex
  | [], _, _ => none
  | [a], m, H => (a m H).bind fun p => match p.1 with | .bool _ => some p | _ => none
  | a :: b :: r, m, H => (a m H).bind fun p => match p.1 with
    | .bool true => some (.bool true, p.2)
    | .bool false => bor (b :: r) m p.2
    | _ => none
end E
section
variable {C : Cx} {μ : List Sl} {A : Around} {s : Shared} {H : Hp} {k : Nat} {nm : List (Str × NameKind)}
theorem SimE.bor1 {e : Expr} {a : Ex} {pos : Pos} (h : SimE C k nm e a) : SimE C k nm (.BoolOp .Or [e] pos) (E.bor [a]) := by
  refine ⟨?_⟩
  intro A env s μ H m r en hn F R X H' hf
  unfold E.bor at hf
  obtain ⟨p, hp, hf⟩ := Option.bind_eq_some_iff.mp hf
  split at hf
  · cases hf
    exact BoolOp_one (h.r A env s μ H m r en hn F R _ _ hp)
  · cases hf
theorem SimE.bor2 {e e2 : Expr} {es : List Expr} {a b : Ex} {rest : List Ex} {pos : Pos} (h : SimE C k nm e a) (h2 : SimE C k nm (.BoolOp .Or (e2 :: es) pos) (E.bor (b :: rest))) : SimE C k nm (.BoolOp .Or (e :: e2 :: es) pos) (E.bor (a :: b :: rest)) := by
  refine ⟨?_⟩
  intro A env s μ H m r en hn F R X H' hf
  unfold E.bor at hf
  obtain ⟨p, hp, hf⟩ := Option.bind_eq_some_iff.mp hf
  refine BoolOp_or (wp_mono (h.r A env s μ H m r en hn F R _ _ hp) fun v s1 z => ?_)
  obtain ⟨μ1, S1, r1⟩ := z
  split at hf
  · rename_i e
    cases hf
    rw [e] at r1
    cases r1
    exact wpAny_truthy_bool (by rw [if_pos rfl]; exact ⟨μ1, S1, .bool _⟩)
  · rename_i e
    rw [e] at r1
    cases r1
    refine wpAny_truthy_bool ?_
    rw [if_neg (by decide)]
    refine wp_mono (h2.r A env s1 μ1 _ m r en hn (F.stp R S1) S1.hr _ _ hf) fun v s2 z => ?_
    obtain ⟨μ2, S2, r2⟩ := z
    exact ⟨μ2, S1.trans S2, r2⟩
  · cases hf
theorem swaps_yes {elt : Expr} {gens : List Comprehension} {scope : Scope} {pos py : Pos} {y : Str} {line : Nat} (hk : nm.lookup y = some .local) (hl : (py.line == pos.line) = true) (hnot : (scope.names.any fun x => x.1 == y && (x.2 == .local || x.2 == .cell)) = false) :
    ∀ env : Env, EnvOk env → env.scope.names = nm → swapsWith (.ListComp elt gens scope pos) (some (.Name y py)) line env = pure true := by
  intro env en hn
  have hb : env.blockKind = .function := by unfold Env.blockKind; rw [en.kind]; rfl
  show (pure (env.blockKind == .function && env.kindOf y == some .local && py.line == pos.line && !(scope.names.any fun x => x.1 == y && (x.2 == .local || x.2 == .cell))) : Sem Bool) = pure true
  rw [hb, kindOf_nm hn, hk, hl, hnot]
  rfl
theorem swaps_no {elt : Expr} {gens : List Comprehension} {scope : Scope} {pos py : Pos} {y : Str} {line : Nat} (hk : nm.lookup y = some .cell) :
    ∀ env : Env, env.scope.names = nm → swapsWith (.ListComp elt gens scope pos) (some (.Name y py)) line env = pure false := by
  intro env hn
  show (pure (env.blockKind == .function && env.kindOf y == some .local && py.line == pos.line && !(scope.names.any fun x => x.1 == y && (x.2 == .local || x.2 == .cell))) : Sem Bool) = pure false
  rw [kindOf_nm hn, hk]
  have : ((some NameKind.cell == some NameKind.local) = false) := rfl
  rw [this, Bool.and_false, Bool.false_and, Bool.false_and]
end
noncomputable abbrev C_BlockBuilder : Addr := 269
noncomputable abbrev C_ClauseCode : Addr := 372
noncomputable abbrev C_Symbols : Addr := 155
namespace P
noncomputable def ClauseCode_init_b : Sx := S.seq (S.asgAttr C_ClauseCode "functor" (E.var "self") (E.var "functor")) (S.seq (S.asgAttr C_ClauseCode "key" (E.var "self") (E.var "key")) (S.seq (S.asgAttr C_ClauseCode "instrs" (E.var "self") (E.var "instrs")) (S.seq (S.asgAttr C_ClauseCode "used" (E.var "self") (E.var "used")) (S.nil))))
noncomputable def ClauseCode_init : Fn := fnOf ["self", "functor", "key", "instrs", "used"] ClauseCode_init_b
noncomputable def Symbols_atom_b : Sx := S.seq (S.asg "found" (E.dget (E.attr C_Symbols "atom_numbers" (E.var "self")) (E.var "text") (E.neg (E.const (.int 1))))) (S.seq (S.iff (T.cmp .GtE (E.var "found") (E.const (.int 0))) (S.seq (S.ret (E.var "found")) (S.nil)) (S.nil)) (S.seq (S.asg "number" (E.len (E.attr C_Symbols "texts" (E.var "self")))) (S.seq (S.expr (E.lmeth E.opAppend (E.attr C_Symbols "texts" (E.var "self")) [E.var "text"])) (S.seq (S.asgItem (E.attr C_Symbols "atom_numbers" (E.var "self")) (E.var "text") (E.var "number")) (S.seq (S.ret (E.var "number")) (S.nil))))))
noncomputable def Symbols_atom : Fn := fnOf ["self", "text"] Symbols_atom_b
noncomputable def Symbols_functor_b : Sx := S.seq (S.asg "key" (E.tup [E.var "atom", E.var "arity"])) (S.seq (S.asg "found" (E.dget (E.attr C_Symbols "functor_numbers" (E.var "self")) (E.var "key") (E.neg (E.const (.int 1))))) (S.seq (S.iff (T.cmp .GtE (E.var "found") (E.const (.int 0))) (S.seq (S.ret (E.var "found")) (S.nil)) (S.nil)) (S.seq (S.asg "number" (E.len (E.attr C_Symbols "functors" (E.var "self")))) (S.seq (S.expr (E.lmeth E.opAppend (E.attr C_Symbols "functors" (E.var "self")) [E.var "key"])) (S.seq (S.asgItem (E.attr C_Symbols "functor_numbers" (E.var "self")) (E.var "key") (E.var "number")) (S.seq (S.ret (E.var "number")) (S.nil)))))))
noncomputable def Symbols_functor : Fn := fnOf ["self", "atom", "arity"] Symbols_functor_b
noncomputable def Symbols_func_b : Sx := S.seq (S.ret (E.meth C_Symbols "functor" P.Symbols_functor (E.var "self") [E.meth C_Symbols "atom" P.Symbols_atom (E.var "self") [E.var "text"], E.var "arity"])) (S.nil)
noncomputable def Symbols_func : Fn := fnOf ["self", "text", "arity"] Symbols_func_b
noncomputable def fixed_atoms_b : Sx := S.seq (S.ret (E.tup [E.const (.str "[]"), E.const (.str "."), E.const (.str "{}"), E.const (.str "-"), E.const (.str "+"), E.const (.str "*"), E.const (.str "/"), E.const (.str ","), E.const (.str "|"), E.const (.str ";"), E.const (.str "->"), E.const (.str "\\+"), E.const (.str ":-"), E.const (.str "?-"), E.const (.str "-->"), E.const (.str "!"), E.const (.str "true"), E.const (.str "fail"), E.const (.str "false"), E.const (.str "call"), E.const (.str "="), E.const (.str "^"), E.const (.str "error"), E.const (.str ""), E.const (.str "end_of_file"), E.const (.str "system"), E.const (.str "$VAR"), E.const (.str "catch"), E.const (.str "throw")])) (S.nil)
noncomputable def fixed_atoms : Fn := fnOf [] fixed_atoms_b
noncomputable def fixed_functors_b : Sx := S.seq (S.ret (E.tup [E.tup [E.const (.str "."), E.const (.int 2)], E.tup [E.const (.str ","), E.const (.int 2)], E.tup [E.const (.str ";"), E.const (.int 2)], E.tup [E.const (.str "->"), E.const (.int 2)], E.tup [E.const (.str "\\+"), E.const (.int 1)], E.tup [E.const (.str ":-"), E.const (.int 2)], E.tup [E.const (.str ":-"), E.const (.int 1)], E.tup [E.const (.str "?-"), E.const (.int 1)], E.tup [E.const (.str "-->"), E.const (.int 2)], E.tup [E.const (.str "{}"), E.const (.int 1)], E.tup [E.const (.str "="), E.const (.int 2)], E.tup [E.const (.str "^"), E.const (.int 2)], E.tup [E.const (.str "-"), E.const (.int 1)], E.tup [E.const (.str "-"), E.const (.int 2)], E.tup [E.const (.str "+"), E.const (.int 2)], E.tup [E.const (.str "/"), E.const (.int 2)], E.tup [E.const (.str "error"), E.const (.int 2)], E.tup [E.const (.str "$VAR"), E.const (.int 1)], E.tup [E.const (.str "catch"), E.const (.int 3)], E.tup [E.const (.str "throw"), E.const (.int 1)], E.tup [E.const (.str "!"), E.const (.int 0)], E.tup [E.const (.str "true"), E.const (.int 0)], E.tup [E.const (.str "fail"), E.const (.int 0)], E.tup [E.const (.str "false"), E.const (.int 0)], E.tup [E.const (.str "call"), E.const (.int 1)], E.tup [E.const (.str "call"), E.const (.int 2)], E.tup [E.const (.str "call"), E.const (.int 3)], E.tup [E.const (.str "call"), E.const (.int 4)], E.tup [E.const (.str "call"), E.const (.int 5)], E.tup [E.const (.str "call"), E.const (.int 6)], E.tup [E.const (.str "call"), E.const (.int 7)], E.tup [E.const (.str "call"), E.const (.int 8)]])) (S.nil)
noncomputable def fixed_functors : Fn := fnOf [] fixed_functors_b
noncomputable def Symbols_init_b : Sx := S.seq (S.asgAttr C_Symbols "texts" (E.var "self") (E.list [])) (S.seq (S.asgAttr C_Symbols "atom_numbers" (E.var "self") (E.dict0)) (S.seq (S.asgAttr C_Symbols "functors" (E.var "self") (E.list [])) (S.seq (S.asgAttr C_Symbols "functor_numbers" (E.var "self") (E.dict0)) (S.seq (S.forIn (S.b1 "text") (E.call P.fixed_atoms []) (S.seq (S.expr (E.meth C_Symbols "atom" P.Symbols_atom (E.var "self") [E.var "text"])) (S.nil))) (S.seq (S.forIn (S.b1 "row") (E.call P.fixed_functors []) (S.seq (S.expr (E.meth C_Symbols "func" P.Symbols_func (E.var "self") [E.item (E.var "row") (E.const (.int 0)), E.item (E.var "row") (E.const (.int 1))])) (S.nil))) (S.nil))))))
noncomputable def Symbols_init : Fn := fnOf ["self"] Symbols_init_b
noncomputable def law_matches_b : Sx := S.seq (S.ret (E.bor [E.cmp .Eq (E.var "key") (E.tup [E.const (.str "var")]), E.cmp .Eq (E.var "other") (E.tup [E.const (.str "var")]), E.cmp .Eq (E.var "key") (E.var "other")])) (S.nil)
noncomputable def law_matches : Fn := fnOf ["key", "other"] law_matches_b
noncomputable def law_target_b : Sx := S.seq (S.iff (T.cmp .Eq (E.item (E.var "ins") (E.const (.int 0))) (E.const (.str "switch_on_term"))) (S.seq (S.ret (E.item (E.var "ins") (E.bin .Add (E.const (.int 1)) (E.lmeth E.opIndex (E.list [E.const (.str "var"), E.const (.str "const"), E.const (.str "list"), E.const (.str "struct")]) [E.item (E.var "key") (E.const (.int 0))])))) (S.nil)) (S.nil)) (S.seq (S.iff (T.cmp .In (E.item (E.var "ins") (E.const (.int 0))) (E.tup [E.const (.str "switch_on_constant"), E.const (.str "switch_on_structure")])) (S.seq (S.forIn (S.b2 "word" "label") (E.item (E.var "ins") (E.const (.int 1))) (S.seq (S.iff (T.cmp .Eq (E.var "word") (E.item (E.var "key") (E.const (.int 1)))) (S.seq (S.ret (E.var "label")) (S.nil)) (S.nil)) (S.nil))) (S.seq (S.ret (E.item (E.var "ins") (E.const (.int 2)))) (S.nil))) (S.nil)) (S.seq (S.ret (E.item (E.var "ins") (E.const (.int 1)))) (S.nil)))
noncomputable def law_target : Fn := fnOf ["ins", "key"] law_target_b
noncomputable def law_visits_turn : Sx := S.seq (S.asg "ins" (E.item (E.var "block") (E.var "at"))) (S.seq (S.asg "clause" (E.neg (E.const (.int 1)))) (S.seq (S.iff (T.cmp .Eq (E.item (E.var "ins") (E.const (.int 0))) (E.const (.str "label"))) (S.seq (S.asg "clause" (E.item (E.var "ins") (E.const (.int 1)))) (S.nil)) (S.nil)) (S.seq (S.iff (T.chain .LtE .Lt (E.const (.int 0)) (E.var "clause") (E.var "many")) (S.seq (S.expr (E.lmeth E.opAppend (E.var "found") [E.tup [E.var "clause", E.len (E.var "left")]])) (S.seq (S.asg "goal" (E.neg (E.const (.int 1)))) (S.nil))) (S.seq (S.iff (T.cmp .Eq (E.item (E.var "ins") (E.const (.int 0))) (E.const (.str "label"))) (S.seq (S.inc "at" (E.const (.int 1))) (S.seq (S.cont) (S.nil))) (S.seq (S.iff (T.cmp .Eq (E.item (E.var "ins") (E.const (.int 0))) (E.const (.str "try"))) (S.seq (S.iff (T.cmp .NotEq (E.item (E.var "ins") (E.const (.int 2))) (E.var "wide")) (S.seq (S.ret (E.const .none)) (S.nil)) (S.nil)) (S.seq (S.expr (E.lmeth E.opAppend (E.var "left") [E.bin .Add (E.var "at") (E.const (.int 1))])) (S.nil))) (S.seq (S.iff (T.cmp .Eq (E.item (E.var "ins") (E.const (.int 0))) (E.const (.str "retry"))) (S.seq (S.asgItem (E.var "left") (E.neg (E.const (.int 1))) (E.bin .Add (E.var "at") (E.const (.int 1)))) (S.nil)) (S.seq (S.iff (T.cmp .Eq (E.item (E.var "ins") (E.const (.int 0))) (E.const (.str "trust"))) (S.seq (S.expr (E.lmeth E.opPop (E.var "left") [])) (S.nil)) (S.seq (S.iff (T.cmp .NotIn (E.item (E.var "ins") (E.const (.int 0))) (E.tup [E.const (.str "switch_on_term"), E.const (.str "switch_on_constant"), E.const (.str "switch_on_structure")])) (S.seq (S.ret (E.const .none)) (S.nil)) (S.nil)) (S.nil))) (S.nil))) (S.nil))) (S.seq (S.asg "goal" (E.call P.law_target [E.var "ins", E.var "key"])) (S.seq (S.iff (T.cmp .GtE (E.var "goal") (E.const (.int 0))) (S.seq (S.iff (T.cmp .NotIn (E.var "goal") (E.var "where")) (S.seq (S.ret (E.const .none)) (S.nil)) (S.nil)) (S.seq (S.asg "at" (E.item (E.var "where") (E.var "goal"))) (S.seq (S.cont) (S.nil)))) (S.nil)) (S.nil))))) (S.nil))) (S.seq (S.iff (T.nil false (E.var "left")) (S.seq (S.ret (E.var "found")) (S.nil)) (S.nil)) (S.seq (S.asg "at" (E.item (E.var "left") (E.neg (E.const (.int 1))))) (S.nil))))))
noncomputable def law_visits_b : Sx := S.seq (S.asg "where" (E.dict0)) (S.seq (S.forR1 (S.b1 "place") (E.len (E.var "block")) (S.seq (S.iff (T.cmp .Eq (E.item (E.item (E.var "block") (E.var "place")) (E.const (.int 0))) (E.const (.str "label"))) (S.seq (S.iff (T.cmp .In (E.item (E.item (E.var "block") (E.var "place")) (E.const (.int 1))) (E.var "where")) (S.seq (S.ret (E.const .none)) (S.nil)) (S.nil)) (S.seq (S.asgItem (E.var "where") (E.item (E.item (E.var "block") (E.var "place")) (E.const (.int 1))) (E.var "place")) (S.nil))) (S.nil)) (S.nil))) (S.seq (S.asg "left" (E.list [])) (S.seq (S.asg "found" (E.list [])) (S.seq (S.asg "at" (E.const (.int 0))) (S.seq (S.forR1 (S.b1 "turn") (E.const (.int 200)) (P.law_visits_turn)) (S.seq (S.ret (E.const .none)) (S.nil)))))))
noncomputable def law_visits : Fn := fnOf ["block", "many", "wide", "key"] law_visits_b
noncomputable def law_checked_b : Sx := S.seq (S.forIn (S.b1 "call") (E.var "calls") (S.seq (S.asg "due" (E.compR ["call", "keys"] (S.b1 "place") (E.len (E.var "keys")) (T.of (E.call P.law_matches [E.item (E.var "keys") (E.var "place"), E.var "call"])) (E.var "place"))) (S.seq (S.asg "met" (E.comp [] (S.b2 "place" "left") (E.call P.law_visits [E.var "block", E.len (E.var "keys"), E.var "wide", E.var "call"]) (T.yes) (E.var "place"))) (S.seq (S.iff (T.not (T.of (E.var "exact"))) (S.seq (S.asg "met" (E.comp ["due"] (S.b1 "place") (E.var "met") (T.cmp .In (E.var "place") (E.var "due")) (E.var "place"))) (S.nil)) (S.nil)) (S.seq (S.iff (T.cmp .NotEq (E.var "met") (E.var "due")) (S.seq (S.ret (E.const (.bool false))) (S.nil)) (S.nil)) (S.nil)))))) (S.seq (S.ret (E.const (.bool true))) (S.nil))
noncomputable def law_checked : Fn := fnOf ["block", "keys", "calls", "wide", "exact"] law_checked_b
noncomputable def law_next_b : Sx := S.seq (S.ret (E.ife (T.nil true (E.var "row")) (E.lmeth E.opPop (E.var "row") []) (E.const (.int 0)))) (S.nil)
noncomputable def law_next : Fn := fnOf ["row"] law_next_b
noncomputable def law_key_b : Sx := S.seq (S.asg "kind" (E.bin .Mod (E.call P.law_next [E.var "row"]) (E.const (.int 5)))) (S.seq (S.iff (T.cmp .Eq (E.var "kind") (E.const (.int 0))) (S.seq (S.ret (E.tup [E.const (.str "var")])) (S.nil)) (S.nil)) (S.seq (S.iff (T.cmp .Eq (E.var "kind") (E.const (.int 3))) (S.seq (S.ret (E.tup [E.const (.str "list")])) (S.nil)) (S.nil)) (S.seq (S.iff (T.cmp .Eq (E.var "kind") (E.const (.int 4))) (S.seq (S.ret (E.tup [E.const (.str "struct"), E.item (E.list [E.const (.int 12), E.const (.int 13), E.const (.int 14)]) (E.bin .Mod (E.call P.law_next [E.var "row"]) (E.const (.int 3)))])) (S.nil)) (S.nil)) (S.seq (S.ret (E.tup [E.const (.str "const"), E.tup [E.item (E.list [E.const (.int 4), E.const (.int 5)]) (E.bin .Sub (E.var "kind") (E.const (.int 1))), E.item (E.list [E.const (.int 0), E.const (.int 1), E.const (.int 2), E.bin .Pow (E.const (.int 10)) (E.const (.int 30))]) (E.bin .Mod (E.call P.law_next [E.var "row"]) (E.const (.int 4)))]])) (S.nil)))))
noncomputable def law_key : Fn := fnOf ["row"] law_key_b
noncomputable def law_row_b : Sx := S.seq (S.asg "row" (E.list [])) (S.seq (S.forIn (S.b1 "cell") (E.upto (E.var "script") (E.const (.int 40))) (S.seq (S.asg "number" (E.ife (T.cmp .GtE (E.var "cell") (E.const (.int 0))) (E.var "cell") (E.bin .Sub (E.const (.int 7)) (E.var "cell")))) (S.seq (S.expr (E.lmeth E.opAppend (E.var "row") [E.bin .Mod (E.var "number") (E.const (.int 1013))])) (S.seq (S.asg "number" (E.bin .FloorDiv (E.var "number") (E.const (.int 1013)))) (S.seq (S.forR1 (S.b1 "turn") (E.const (.int 30)) (S.seq (S.iff (T.cmp .Gt (E.var "number") (E.const (.int 0))) (S.seq (S.expr (E.lmeth E.opAppend (E.var "row") [E.bin .Mod (E.var "number") (E.const (.int 1013))])) (S.seq (S.asg "number" (E.bin .FloorDiv (E.var "number") (E.const (.int 1013)))) (S.nil))) (S.nil)) (S.nil))) (S.nil)))))) (S.seq (S.asg "row" (E.upto (E.var "row") (E.const (.int 120)))) (S.seq (S.expr (E.lmeth E.opRev (E.var "row") [])) (S.seq (S.ret (E.var "row")) (S.nil)))))
noncomputable def law_row : Fn := fnOf ["script"] law_row_b
noncomputable def law_spoiled_b : Sx := S.seq (S.asg "places" (E.compR ["block"] (S.b1 "place") (E.len (E.var "block")) (T.and [T.cmp .NotEq (E.item (E.item (E.var "block") (E.var "place")) (E.const (.int 0))) (E.const (.str "label")), T.cmp .Lt (E.var "place") (E.lmeth E.opIndex (E.var "block") [E.tup [E.const (.str "label"), E.const (.int 0)]])]) (E.var "place"))) (S.seq (S.asg "place" (E.item (E.var "places") (E.bin .Mod (E.call P.law_next [E.var "row"]) (E.len (E.var "places"))))) (S.seq (S.asg "ins" (E.item (E.var "block") (E.var "place"))) (S.seq (S.asg "label" (E.bin .Sub (E.bin .Mod (E.call P.law_next [E.var "row"]) (E.bin .Add (E.var "many") (E.const (.int 1)))) (E.const (.int 1)))) (S.seq (S.asg "draw" (E.bin .Mod (E.call P.law_next [E.var "row"]) (E.const (.int 5)))) (S.seq (S.iff (T.cmp .In (E.item (E.var "ins") (E.const (.int 0))) (E.tup [E.const (.str "switch_on_constant"), E.const (.str "switch_on_structure")])) (S.seq (S.iff (T.cmp .Eq (E.var "draw") (E.const (.int 0))) (S.seq (S.ret (E.bin .Add (E.bin .Add (E.upto (E.var "block") (E.var "place")) (E.list [E.tup [E.item (E.var "ins") (E.const (.int 0)), E.item (E.var "ins") (E.const (.int 1)), E.var "label"]])) (E.from_ (E.var "block") (E.bin .Add (E.var "place") (E.const (.int 1)))))) (S.nil)) (S.nil)) (S.seq (S.asg "pairs" (E.mklist (E.item (E.var "ins") (E.const (.int 1))))) (S.seq (S.asg "at" (E.bin .Mod (E.call P.law_next [E.var "row"]) (E.len (E.var "pairs")))) (S.seq (S.iff (T.cmp .Lt (E.var "draw") (E.const (.int 3))) (S.seq (S.asgItem (E.var "pairs") (E.var "at") (E.tup [E.item (E.item (E.var "pairs") (E.var "at")) (E.const (.int 0)), E.var "label"])) (S.nil)) (S.seq (S.expr (E.lmeth E.opPop (E.var "pairs") [E.var "at"])) (S.nil))) (S.seq (S.ret (E.bin .Add (E.bin .Add (E.upto (E.var "block") (E.var "place")) (E.list [E.tup [E.item (E.var "ins") (E.const (.int 0)), E.mktup (E.var "pairs"), E.item (E.var "ins") (E.const (.int 2))]])) (E.from_ (E.var "block") (E.bin .Add (E.var "place") (E.const (.int 1)))))) (S.nil)))))) (S.nil)) (S.seq (S.iff (T.cmp .Eq (E.item (E.var "ins") (E.const (.int 0))) (E.const (.str "switch_on_term"))) (S.seq (S.asg "parts" (E.mklist (E.var "ins"))) (S.seq (S.asgItem (E.var "parts") (E.bin .Add (E.const (.int 1)) (E.bin .Mod (E.var "draw") (E.const (.int 4)))) (E.var "label")) (S.seq (S.ret (E.bin .Add (E.bin .Add (E.upto (E.var "block") (E.var "place")) (E.list [E.mktup (E.var "parts")])) (E.from_ (E.var "block") (E.bin .Add (E.var "place") (E.const (.int 1)))))) (S.nil)))) (S.nil)) (S.seq (S.iff (T.and [T.cmp .In (E.item (E.var "ins") (E.const (.int 0))) (E.tup [E.const (.str "retry"), E.const (.str "trust")]), T.cmp .Eq (E.var "draw") (E.const (.int 4))]) (S.seq (S.ret (E.bin .Add (E.bin .Add (E.upto (E.var "block") (E.var "place")) (E.list [E.var "ins"])) (E.from_ (E.var "block") (E.var "place")))) (S.nil)) (S.nil)) (S.seq (S.ret (E.bin .Add (E.bin .Add (E.upto (E.var "block") (E.var "place")) (E.list [E.bin .Add (E.tup [E.item (E.var "ins") (E.const (.int 0)), E.var "label"]) (E.tfrom (E.var "ins") 2)])) (E.from_ (E.var "block") (E.bin .Add (E.var "place") (E.const (.int 1)))))) (S.nil)))))))))
noncomputable def law_spoiled : Fn := fnOf ["row", "block", "many"] law_spoiled_b
noncomputable def matching_b : Sx := S.seq (S.iff (T.or [T.cmp .Eq (E.var "key") (E.const (.tup [.str "var"])), T.cmp .Eq (E.var "cell_key") (E.const (.tup [.str "var"]))]) (S.seq (S.ret (E.const (.bool true))) (S.nil)) (S.nil)) (S.seq (S.ret (E.cmp .Eq (E.var "key") (E.var "cell_key"))) (S.nil))
noncomputable def matching : Fn := fnOf ["key", "cell_key"] matching_b
noncomputable def candidates_b : Sx := S.seq (S.asg "places" (E.list [])) (S.seq (S.forR1 (S.b1 "place") (E.len (E.var "codes")) (S.seq (S.iff (T.of (E.call P.matching [E.attr C_ClauseCode "key" (E.item (E.var "codes") (E.var "place")), E.var "cell_key"])) (S.seq (S.expr (E.lmeth E.opAppend (E.var "places") [E.var "place"])) (S.nil)) (S.nil)) (S.nil))) (S.seq (S.ret (E.var "places")) (S.nil)))
noncomputable def candidates : Fn := fnOf ["codes", "cell_key"] candidates_b
noncomputable def BlockBuilder_init_b : Sx := S.seq (S.asgAttr C_BlockBuilder "arity" (E.var "self") (E.var "arity")) (S.seq (S.asgAttr C_BlockBuilder "codes" (E.var "self") (E.var "codes")) (S.seq (S.asgAttr C_BlockBuilder "rows" (E.var "self") (E.list [])) (S.seq (S.asgAttr C_BlockBuilder "chains" (E.var "self") (E.list [])) (S.seq (S.asgAttr C_BlockBuilder "known" (E.var "self") (E.dict0)) (S.seq (S.asgAttr C_BlockBuilder "next_label" (E.var "self") (E.len (E.var "codes"))) (S.nil))))))
noncomputable def BlockBuilder_init : Fn := fnOf ["self", "arity", "codes"] BlockBuilder_init_b
noncomputable def BlockBuilder_chain_rows_b : Sx := S.seq (S.asg "rows" (E.list [E.tup [E.const (.str "try"), E.item (E.var "labels") (E.const (.int 0)), E.attr C_BlockBuilder "arity" (E.var "self")]])) (S.seq (S.asg "last" (E.bin .Sub (E.len (E.var "labels")) (E.const (.int 1)))) (S.seq (S.forR2 (S.b1 "place") (E.const (.int 1)) (E.var "last") (S.seq (S.expr (E.lmeth E.opAppend (E.var "rows") [E.tup [E.const (.str "retry"), E.item (E.var "labels") (E.var "place")]])) (S.nil))) (S.seq (S.expr (E.lmeth E.opAppend (E.var "rows") [E.tup [E.const (.str "trust"), E.item (E.var "labels") (E.var "last")]])) (S.seq (S.ret (E.var "rows")) (S.nil)))))
noncomputable def BlockBuilder_chain_rows : Fn := fnOf ["self", "labels"] BlockBuilder_chain_rows_b
noncomputable def BlockBuilder_finish_b : Sx := S.seq (S.forIn (S.b1 "pair") (E.attr C_BlockBuilder "chains" (E.var "self")) (S.seq (S.expr (E.lmeth E.opAppend (E.attr C_BlockBuilder "rows" (E.var "self")) [E.tup [E.const (.str "label"), E.item (E.var "pair") (E.const (.int 0))]])) (S.seq (S.forIn (S.b1 "row") (E.meth C_BlockBuilder "chain_rows" P.BlockBuilder_chain_rows (E.var "self") [E.item (E.var "pair") (E.const (.int 1))]) (S.seq (S.expr (E.lmeth E.opAppend (E.attr C_BlockBuilder "rows" (E.var "self")) [E.var "row"])) (S.nil))) (S.nil)))) (S.seq (S.forR1 (S.b1 "place") (E.len (E.attr C_BlockBuilder "codes" (E.var "self"))) (S.seq (S.expr (E.lmeth E.opAppend (E.attr C_BlockBuilder "rows" (E.var "self")) [E.tup [E.const (.str "label"), E.var "place"]])) (S.seq (S.forIn (S.b1 "row") (E.attr C_ClauseCode "instrs" (E.item (E.attr C_BlockBuilder "codes" (E.var "self")) (E.var "place"))) (S.seq (S.expr (E.lmeth E.opAppend (E.attr C_BlockBuilder "rows" (E.var "self")) [E.var "row"])) (S.nil))) (S.nil)))) (S.seq (S.ret (E.attr C_BlockBuilder "rows" (E.var "self"))) (S.nil)))
noncomputable def BlockBuilder_finish : Fn := fnOf ["self"] BlockBuilder_finish_b
noncomputable def Symbols_arity_b : Sx := S.seq (S.ret (E.item (E.item (E.attr C_Symbols "functors" (E.var "self")) (E.var "functor")) (E.const (.int 1)))) (S.nil)
noncomputable def Symbols_arity : Fn := fnOf ["self", "functor"] Symbols_arity_b
noncomputable def small_block : Fn := fun _ _ => none
noncomputable def chain_block_b : Sx := S.seq (S.iff (T.cmp .Lt (E.len (E.var "codes")) (E.const (.int 2))) (S.seq (S.ret (E.call P.small_block [E.var "codes"])) (S.nil)) (S.nil)) (S.seq (S.asg "builder" (E.new C_BlockBuilder P.BlockBuilder_init [E.meth C_Symbols "arity" P.Symbols_arity (E.var "symbols") [E.var "functor"], E.var "codes"])) (S.seq (S.forIn (S.b1 "row") (E.meth C_BlockBuilder "chain_rows" P.BlockBuilder_chain_rows (E.var "builder") [E.listRange (E.len (E.var "codes"))]) (S.seq (S.expr (E.lmeth E.opAppend (E.attr C_BlockBuilder "rows" (E.var "builder")) [E.var "row"])) (S.nil))) (S.seq (S.ret (E.meth C_BlockBuilder "finish" P.BlockBuilder_finish (E.var "builder") [])) (S.nil))))
noncomputable def chain_block : Fn := fnOf ["symbols", "functor", "codes"] chain_block_b
noncomputable def const_key_b : Sx := S.seq (S.ret (E.tup [E.const (.str "const"), E.var "cell"])) (S.nil)
noncomputable def const_key : Fn := fnOf ["cell"] const_key_b
noncomputable def struct_key_b : Sx := S.seq (S.ret (E.tup [E.const (.str "struct"), E.var "functor"])) (S.nil)
noncomputable def struct_key : Fn := fnOf ["functor"] struct_key_b
noncomputable def sample_keys_b : Sx := S.seq (S.asg "keys" (E.list [E.const (.tup [.str "var"]), E.const (.tup [.str "list"])])) (S.seq (S.asg "greatest" (E.const (.int 0))) (S.seq (S.asg "functor" (E.const (.int 0))) (S.seq (S.forIn (S.b1 "code") (E.var "codes") (S.seq (S.asg "key" (E.attr C_ClauseCode "key" (E.var "code"))) (S.seq (S.iff (T.cmp .NotIn (E.var "key") (E.var "keys")) (S.seq (S.expr (E.lmeth E.opAppend (E.var "keys") [E.var "key"])) (S.nil)) (S.nil)) (S.seq (S.iff (T.and [T.cmp .Eq (E.item (E.var "key") (E.const (.int 0))) (E.const (.str "const")), T.cmp .Eq (E.item (E.item (E.var "key") (E.const (.int 1))) (E.const (.int 0))) (E.const (.int 5)), T.cmp .Gt (E.item (E.item (E.var "key") (E.const (.int 1))) (E.const (.int 1))) (E.var "greatest")]) (S.seq (S.asg "greatest" (E.item (E.item (E.var "key") (E.const (.int 1))) (E.const (.int 1)))) (S.nil)) (S.nil)) (S.seq (S.iff (T.and [T.cmp .Eq (E.item (E.var "key") (E.const (.int 0))) (E.const (.str "struct")), T.cmp .Gt (E.item (E.var "key") (E.const (.int 1))) (E.var "functor")]) (S.seq (S.asg "functor" (E.item (E.var "key") (E.const (.int 1)))) (S.nil)) (S.nil)) (S.nil)))))) (S.seq (S.expr (E.lmeth E.opAppend (E.var "keys") [E.call P.const_key [E.tup [E.const (.int 5), E.bin .Add (E.var "greatest") (E.const (.int 1))]]])) (S.seq (S.expr (E.lmeth E.opAppend (E.var "keys") [E.call P.struct_key [E.bin .Add (E.var "functor") (E.const (.int 1))]])) (S.seq (S.ret (E.var "keys")) (S.nil)))))))
noncomputable def sample_keys : Fn := fnOf ["codes"] sample_keys_b
noncomputable def label_places_b : Sx := S.seq (S.asg "where" (E.dict0)) (S.seq (S.forR1 (S.b1 "place") (E.len (E.var "block")) (S.seq (S.iff (T.cmp .Eq (E.item (E.item (E.var "block") (E.var "place")) (E.const (.int 0))) (E.const (.str "label"))) (S.seq (S.asgItem (E.var "where") (E.item (E.item (E.var "block") (E.var "place")) (E.const (.int 1))) (E.var "place")) (S.nil)) (S.nil)) (S.nil))) (S.seq (S.ret (E.var "where")) (S.nil)))
noncomputable def label_places : Fn := fnOf ["block"] label_places_b
noncomputable def switch_target_b : Sx := S.seq (S.asg "kind" (E.item (E.var "key") (E.const (.int 0)))) (S.seq (S.iff (T.cmp .Eq (E.var "kind") (E.const (.str "const"))) (S.seq (S.ret (E.item (E.var "ins") (E.const (.int 2)))) (S.nil)) (S.nil)) (S.seq (S.iff (T.cmp .Eq (E.var "kind") (E.const (.str "list"))) (S.seq (S.ret (E.item (E.var "ins") (E.const (.int 3)))) (S.nil)) (S.nil)) (S.seq (S.iff (T.cmp .Eq (E.var "kind") (E.const (.str "struct"))) (S.seq (S.ret (E.item (E.var "ins") (E.const (.int 4)))) (S.nil)) (S.nil)) (S.seq (S.ret (E.item (E.var "ins") (E.const (.int 1)))) (S.nil)))))
noncomputable def switch_target : Fn := fnOf ["ins", "key"] switch_target_b
noncomputable def table_target_b : Sx := S.seq (S.forIn (S.b1 "pair") (E.item (E.var "ins") (E.const (.int 1))) (S.seq (S.iff (T.cmp .Eq (E.item (E.var "pair") (E.const (.int 0))) (E.item (E.var "key") (E.const (.int 1)))) (S.seq (S.ret (E.item (E.var "pair") (E.const (.int 1)))) (S.nil)) (S.nil)) (S.nil))) (S.seq (S.ret (E.item (E.var "ins") (E.const (.int 2)))) (S.nil))
noncomputable def table_target : Fn := fnOf ["ins", "key"] table_target_b
noncomputable def tried_clauses_test : Tx := T.cmp .Gt (E.len (E.var "pending")) (E.const (.int 0))
noncomputable def tried_clauses_work : Sx := S.seq (S.asg "place" (E.lmeth E.opPop (E.var "pending") [])) (S.seq (S.asg "ins" (E.item (E.var "block") (E.var "place"))) (S.seq (S.asg "name" (E.item (E.var "ins") (E.const (.int 0)))) (S.seq (S.asg "target" (E.const (.int (-1)))) (S.seq (S.iff (T.cmp .Eq (E.var "name") (E.const (.str "label"))) (S.seq (S.iff (T.cmp .Lt (E.item (E.var "ins") (E.const (.int 1))) (E.var "count")) (S.seq (S.expr (E.lmeth E.opAppend (E.var "found") [E.item (E.var "ins") (E.const (.int 1))])) (S.nil)) (S.seq (S.expr (E.lmeth E.opAppend (E.var "pending") [E.bin .Add (E.var "place") (E.const (.int 1))])) (S.nil))) (S.nil)) (S.seq (S.iff (T.or [T.cmp .Eq (E.var "name") (E.const (.str "try")), T.cmp .Eq (E.var "name") (E.const (.str "retry"))]) (S.seq (S.expr (E.lmeth E.opAppend (E.var "pending") [E.bin .Add (E.var "place") (E.const (.int 1))])) (S.seq (S.asg "target" (E.item (E.var "ins") (E.const (.int 1)))) (S.nil))) (S.seq (S.iff (T.cmp .Eq (E.var "name") (E.const (.str "trust"))) (S.seq (S.asg "target" (E.item (E.var "ins") (E.const (.int 1)))) (S.nil)) (S.seq (S.iff (T.cmp .Eq (E.var "name") (E.const (.str "switch_on_term"))) (S.seq (S.asg "target" (E.call P.switch_target [E.var "ins", E.var "key"])) (S.nil)) (S.seq (S.iff (T.or [T.cmp .Eq (E.var "name") (E.const (.str "switch_on_constant")), T.cmp .Eq (E.var "name") (E.const (.str "switch_on_structure"))]) (S.seq (S.asg "target" (E.call P.table_target [E.var "ins", E.var "key"])) (S.nil)) (S.seq (S.fail) (S.nil))) (S.nil))) (S.nil))) (S.nil))) (S.nil))) (S.seq (S.iff (T.cmp .NotEq (E.var "target") (E.const (.int (-1)))) (S.seq (S.expr (E.lmeth E.opAppend (E.var "pending") [E.item (E.var "where") (E.var "target")])) (S.nil)) (S.nil)) (S.nil))))))
noncomputable def tried_clauses_b : Sx := S.seq (S.iff (T.cmp .Eq (E.var "count") (E.const (.int 0))) (S.seq (S.ret (E.list [])) (S.nil)) (S.nil)) (S.seq (S.iff (T.cmp .Eq (E.var "count") (E.const (.int 1))) (S.seq (S.ret (E.list [E.const (.int 0)])) (S.nil)) (S.nil)) (S.seq (S.asg "where" (E.call P.label_places [E.var "block"])) (S.seq (S.asg "found" (E.list [])) (S.seq (S.asg "pending" (E.list [E.const (.int 0)])) (S.seq (S.whl (P.tried_clauses_test) (P.tried_clauses_work) 1000) (S.seq (S.ret (E.var "found")) (S.nil)))))))
noncomputable def tried_clauses : Fn := fnOf ["block", "count", "key"] tried_clauses_b
noncomputable def check_index_b : Sx := S.seq (S.forIn (S.b1 "key") (E.call P.sample_keys [E.var "codes"]) (S.seq (S.asg "tried" (E.call P.tried_clauses [E.var "block", E.len (E.var "codes"), E.var "key"])) (S.seq (S.iff (T.not (T.of (E.var "exact"))) (S.seq (S.asg "tried" (E.comp ["key", "codes"] (S.b1 "place") (E.var "tried") (T.of (E.call P.matching [E.attr C_ClauseCode "key" (E.item (E.var "codes") (E.var "place")), E.var "key"])) (E.var "place"))) (S.nil)) (S.nil)) (S.seq (S.iff (T.cmp .NotEq (E.var "tried") (E.call P.candidates [E.var "codes", E.var "key"])) (S.seq (S.ret (E.const (.bool false))) (S.nil)) (S.nil)) (S.nil))))) (S.seq (S.ret (E.const (.bool true))) (S.nil))
noncomputable def check_index : Fn := fnOf ["codes", "block", "exact"] check_index_b
noncomputable def BlockBuilder_fresh_label_b : Sx := S.seq (S.asg "label" (E.attr C_BlockBuilder "next_label" (E.var "self"))) (S.seq (S.asgAttr C_BlockBuilder "next_label" (E.var "self") (E.bin .Add (E.var "label") (E.const (.int 1)))) (S.seq (S.ret (E.var "label")) (S.nil)))
noncomputable def BlockBuilder_fresh_label : Fn := fnOf ["self"] BlockBuilder_fresh_label_b
noncomputable def BlockBuilder_chain_b : Sx := S.seq (S.iff (T.cmp .Eq (E.len (E.var "places")) (E.const (.int 0))) (S.seq (S.ret (E.const (.int (-1)))) (S.nil)) (S.nil)) (S.seq (S.iff (T.cmp .Eq (E.len (E.var "places")) (E.const (.int 1))) (S.seq (S.ret (E.item (E.var "places") (E.const (.int 0)))) (S.nil)) (S.nil)) (S.seq (S.asg "wanted" (E.mktup (E.var "places"))) (S.seq (S.iff (T.cmp .In (E.var "wanted") (E.attr C_BlockBuilder "known" (E.var "self"))) (S.seq (S.ret (E.item (E.attr C_BlockBuilder "known" (E.var "self")) (E.var "wanted"))) (S.nil)) (S.nil)) (S.seq (S.asg "label" (E.meth C_BlockBuilder "fresh_label" P.BlockBuilder_fresh_label (E.var "self") [])) (S.seq (S.asgItem (E.attr C_BlockBuilder "known" (E.var "self")) (E.var "wanted") (E.var "label")) (S.seq (S.expr (E.lmeth E.opAppend (E.attr C_BlockBuilder "chains" (E.var "self")) [E.tup [E.var "label", E.var "wanted"]])) (S.seq (S.ret (E.var "label")) (S.nil))))))))
noncomputable def BlockBuilder_chain : Fn := fnOf ["self", "places"] BlockBuilder_chain_b
noncomputable def BlockBuilder_matching_places_b : Sx := S.seq (S.asg "found" (E.list [])) (S.seq (S.forIn (S.b1 "place") (E.var "places") (S.seq (S.iff (T.of (E.call P.matching [E.attr C_ClauseCode "key" (E.item (E.attr C_BlockBuilder "codes" (E.var "self")) (E.var "place")), E.var "cell_key"])) (S.seq (S.expr (E.lmeth E.opAppend (E.var "found") [E.var "place"])) (S.nil)) (S.nil)) (S.nil))) (S.seq (S.ret (E.var "found")) (S.nil)))
noncomputable def BlockBuilder_matching_places : Fn := fnOf ["self", "places", "cell_key"] BlockBuilder_matching_places_b
noncomputable def BlockBuilder_table_b : Sx := S.seq (S.asg "pairs" (E.list [])) (S.seq (S.asg "seen" (E.dict0)) (S.seq (S.forIn (S.b1 "place") (E.var "places") (S.seq (S.asg "key" (E.attr C_ClauseCode "key" (E.item (E.attr C_BlockBuilder "codes" (E.var "self")) (E.var "place")))) (S.seq (S.iff (T.and [T.cmp .Eq (E.item (E.var "key") (E.const (.int 0))) (E.var "kind"), T.cmp .NotIn (E.item (E.var "key") (E.const (.int 1))) (E.var "seen")]) (S.seq (S.asgItem (E.var "seen") (E.item (E.var "key") (E.const (.int 1))) (E.const (.bool true))) (S.seq (S.expr (E.lmeth E.opAppend (E.var "pairs") [E.tup [E.item (E.var "key") (E.const (.int 1)), E.meth C_BlockBuilder "chain" P.BlockBuilder_chain (E.var "self") [E.meth C_BlockBuilder "matching_places" P.BlockBuilder_matching_places (E.var "self") [E.var "places", E.var "key"]]]])) (S.nil))) (S.nil)) (S.nil)))) (S.seq (S.ret (E.mktup (E.var "pairs"))) (S.nil))))
noncomputable def BlockBuilder_table : Fn := fnOf ["self", "places", "kind"] BlockBuilder_table_b
noncomputable def BlockBuilder_variable_places_b : Sx := S.seq (S.asg "found" (E.list [])) (S.seq (S.forIn (S.b1 "place") (E.var "places") (S.seq (S.iff (T.cmp .Eq (E.attr C_ClauseCode "key" (E.item (E.attr C_BlockBuilder "codes" (E.var "self")) (E.var "place"))) (E.const (.tup [.str "var"]))) (S.seq (S.expr (E.lmeth E.opAppend (E.var "found") [E.var "place"])) (S.nil)) (S.nil)) (S.nil))) (S.seq (S.ret (E.var "found")) (S.nil)))
noncomputable def BlockBuilder_variable_places : Fn := fnOf ["self", "places"] BlockBuilder_variable_places_b
noncomputable def BlockBuilder_switch_b : Sx := S.seq (S.asg "default" (E.meth C_BlockBuilder "chain" P.BlockBuilder_chain (E.var "self") [E.meth C_BlockBuilder "variable_places" P.BlockBuilder_variable_places (E.var "self") [E.var "places"]])) (S.seq (S.asg "constants" (E.meth C_BlockBuilder "table" P.BlockBuilder_table (E.var "self") [E.var "places", E.const (.str "const")])) (S.seq (S.asg "structures" (E.meth C_BlockBuilder "table" P.BlockBuilder_table (E.var "self") [E.var "places", E.const (.str "struct")])) (S.seq (S.asg "const_label" (E.var "default")) (S.seq (S.asg "struct_label" (E.var "default")) (S.seq (S.iff (T.cmp .Gt (E.len (E.var "constants")) (E.const (.int 0))) (S.seq (S.asg "const_label" (E.meth C_BlockBuilder "fresh_label" P.BlockBuilder_fresh_label (E.var "self") [])) (S.nil)) (S.nil)) (S.seq (S.iff (T.cmp .Gt (E.len (E.var "structures")) (E.const (.int 0))) (S.seq (S.asg "struct_label" (E.meth C_BlockBuilder "fresh_label" P.BlockBuilder_fresh_label (E.var "self") [])) (S.nil)) (S.nil)) (S.seq (S.asg "list_label" (E.meth C_BlockBuilder "chain" P.BlockBuilder_chain (E.var "self") [E.meth C_BlockBuilder "matching_places" P.BlockBuilder_matching_places (E.var "self") [E.var "places", E.const (.tup [.str "list"])]])) (S.seq (S.expr (E.lmeth E.opAppend (E.attr C_BlockBuilder "rows" (E.var "self")) [E.tup [E.const (.str "switch_on_term"), E.meth C_BlockBuilder "chain" P.BlockBuilder_chain (E.var "self") [E.var "places"], E.var "const_label", E.var "list_label", E.var "struct_label"]])) (S.seq (S.iff (T.cmp .Gt (E.len (E.var "constants")) (E.const (.int 0))) (S.seq (S.expr (E.lmeth E.opAppend (E.attr C_BlockBuilder "rows" (E.var "self")) [E.tup [E.const (.str "label"), E.var "const_label"]])) (S.seq (S.expr (E.lmeth E.opAppend (E.attr C_BlockBuilder "rows" (E.var "self")) [E.tup [E.const (.str "switch_on_constant"), E.var "constants", E.var "default"]])) (S.nil))) (S.nil)) (S.seq (S.iff (T.cmp .Gt (E.len (E.var "structures")) (E.const (.int 0))) (S.seq (S.expr (E.lmeth E.opAppend (E.attr C_BlockBuilder "rows" (E.var "self")) [E.tup [E.const (.str "label"), E.var "struct_label"]])) (S.seq (S.expr (E.lmeth E.opAppend (E.attr C_BlockBuilder "rows" (E.var "self")) [E.tup [E.const (.str "switch_on_structure"), E.var "structures", E.var "default"]])) (S.nil))) (S.nil)) (S.nil)))))))))))
noncomputable def BlockBuilder_switch : Fn := fnOf ["self", "places"] BlockBuilder_switch_b
noncomputable def all_variable_b : Sx := S.seq (S.forIn (S.b1 "code") (E.var "codes") (S.seq (S.iff (T.cmp .NotEq (E.attr C_ClauseCode "key" (E.var "code")) (E.const (.tup [.str "var"]))) (S.seq (S.ret (E.const (.bool false))) (S.nil)) (S.nil)) (S.nil))) (S.seq (S.ret (E.const (.bool true))) (S.nil))
noncomputable def all_variable : Fn := fnOf ["codes"] all_variable_b
noncomputable def clause_groups_b : Sx := S.seq (S.asg "groups" (E.list [])) (S.seq (S.asg "run" (E.list [])) (S.seq (S.forR1 (S.b1 "place") (E.len (E.var "codes")) (S.seq (S.iff (T.cmp .Eq (E.attr C_ClauseCode "key" (E.item (E.var "codes") (E.var "place"))) (E.const (.tup [.str "var"]))) (S.seq (S.iff (T.cmp .Gt (E.len (E.var "run")) (E.const (.int 0))) (S.seq (S.expr (E.lmeth E.opAppend (E.var "groups") [E.var "run"])) (S.seq (S.asg "run" (E.list [])) (S.nil))) (S.nil)) (S.seq (S.expr (E.lmeth E.opAppend (E.var "groups") [E.list [E.var "place"]])) (S.nil))) (S.seq (S.expr (E.lmeth E.opAppend (E.var "run") [E.var "place"])) (S.nil))) (S.nil))) (S.seq (S.iff (T.cmp .Gt (E.len (E.var "run")) (E.const (.int 0))) (S.seq (S.expr (E.lmeth E.opAppend (E.var "groups") [E.var "run"])) (S.nil)) (S.nil)) (S.seq (S.ret (E.var "groups")) (S.nil)))))
noncomputable def clause_groups : Fn := fnOf ["codes"] clause_groups_b
noncomputable def group_block_b : Sx := S.seq (S.iff (T.cmp .Lt (E.len (E.var "codes")) (E.const (.int 2))) (S.seq (S.ret (E.call P.small_block [E.var "codes"])) (S.nil)) (S.nil)) (S.seq (S.iff (T.or [T.cmp .Eq (E.meth C_Symbols "arity" P.Symbols_arity (E.var "symbols") [E.var "functor"]) (E.const (.int 0)), T.of (E.call P.all_variable [E.var "codes"])]) (S.seq (S.ret (E.call P.chain_block [E.var "symbols", E.var "functor", E.var "codes"])) (S.nil)) (S.nil)) (S.seq (S.asg "builder" (E.new C_BlockBuilder P.BlockBuilder_init [E.meth C_Symbols "arity" P.Symbols_arity (E.var "symbols") [E.var "functor"], E.var "codes"])) (S.seq (S.asg "groups" (E.call P.clause_groups [E.var "codes"])) (S.seq (S.iff (T.cmp .Eq (E.len (E.var "groups")) (E.const (.int 1))) (S.seq (S.expr (E.meth C_BlockBuilder "switch" P.BlockBuilder_switch (E.var "builder") [E.item (E.var "groups") (E.const (.int 0))])) (S.seq (S.ret (E.meth C_BlockBuilder "finish" P.BlockBuilder_finish (E.var "builder") [])) (S.nil))) (S.nil)) (S.seq (S.asg "labels" (E.list [])) (S.seq (S.forIn (S.b1 "group") (E.var "groups") (S.seq (S.iff (T.cmp .Eq (E.len (E.var "group")) (E.const (.int 1))) (S.seq (S.expr (E.lmeth E.opAppend (E.var "labels") [E.item (E.var "group") (E.const (.int 0))])) (S.nil)) (S.seq (S.expr (E.lmeth E.opAppend (E.var "labels") [E.meth C_BlockBuilder "fresh_label" P.BlockBuilder_fresh_label (E.var "builder") []])) (S.nil))) (S.nil))) (S.seq (S.forIn (S.b1 "row") (E.meth C_BlockBuilder "chain_rows" P.BlockBuilder_chain_rows (E.var "builder") [E.var "labels"]) (S.seq (S.expr (E.lmeth E.opAppend (E.attr C_BlockBuilder "rows" (E.var "builder")) [E.var "row"])) (S.nil))) (S.seq (S.forR1 (S.b1 "number") (E.len (E.var "groups")) (S.seq (S.iff (T.cmp .Gt (E.len (E.item (E.var "groups") (E.var "number"))) (E.const (.int 1))) (S.seq (S.expr (E.lmeth E.opAppend (E.attr C_BlockBuilder "rows" (E.var "builder")) [E.tup [E.const (.str "label"), E.item (E.var "labels") (E.var "number")]])) (S.seq (S.expr (E.meth C_BlockBuilder "switch" P.BlockBuilder_switch (E.var "builder") [E.item (E.var "groups") (E.var "number")])) (S.nil))) (S.nil)) (S.nil))) (S.seq (S.ret (E.meth C_BlockBuilder "finish" P.BlockBuilder_finish (E.var "builder") [])) (S.nil))))))))))
noncomputable def group_block : Fn := fnOf ["symbols", "functor", "codes"] group_block_b
noncomputable def index_block_b : Sx := S.seq (S.iff (T.cmp .Lt (E.len (E.var "codes")) (E.const (.int 2))) (S.seq (S.ret (E.call P.small_block [E.var "codes"])) (S.nil)) (S.nil)) (S.seq (S.iff (T.or [T.cmp .Eq (E.meth C_Symbols "arity" P.Symbols_arity (E.var "symbols") [E.var "functor"]) (E.const (.int 0)), T.of (E.call P.all_variable [E.var "codes"])]) (S.seq (S.ret (E.call P.chain_block [E.var "symbols", E.var "functor", E.var "codes"])) (S.nil)) (S.nil)) (S.seq (S.asg "builder" (E.new C_BlockBuilder P.BlockBuilder_init [E.meth C_Symbols "arity" P.Symbols_arity (E.var "symbols") [E.var "functor"], E.var "codes"])) (S.seq (S.expr (E.meth C_BlockBuilder "switch" P.BlockBuilder_switch (E.var "builder") [E.listRange (E.len (E.var "codes"))])) (S.seq (S.ret (E.meth C_BlockBuilder "finish" P.BlockBuilder_finish (E.var "builder") [])) (S.nil)))))
noncomputable def index_block : Fn := fnOf ["symbols", "functor", "codes"] index_block_b
noncomputable def leaves_choice_b : Sx := S.seq (S.ret (E.cmp .Gt (E.len (E.call P.candidates [E.var "codes", E.var "cell_key"])) (E.const (.int 1)))) (S.nil)
noncomputable def leaves_choice : Fn := fnOf ["codes", "cell_key"] leaves_choice_b
noncomputable def law_b : Sx := S.seq (S.asg "row" (E.call P.law_row [E.var "script"])) (S.seq (S.asg "signs" (E.new C_Symbols P.Symbols_init [])) (S.seq (S.asg "wide" (E.bin .Add (E.const (.int 1)) (E.bin .Mod (E.call P.law_next [E.var "row"]) (E.const (.int 3))))) (S.seq (S.asg "name" (E.meth C_Symbols "func" P.Symbols_func (E.var "signs") [E.const (.str "p"), E.var "wide"])) (S.seq (S.asg "many" (E.bin .Add (E.const (.int 2)) (E.bin .Mod (E.call P.law_next [E.var "row"]) (E.const (.int 5))))) (S.seq (S.asg "codes" (E.list [])) (S.seq (S.forR1 (S.b1 "place") (E.var "many") (S.seq (S.expr (E.lmeth E.opAppend (E.var "codes") [E.new C_ClauseCode P.ClauseCode_init [E.var "name", E.call P.law_key [E.var "row"], E.list [E.tup [E.const (.str "get_constant"), E.tup [E.const (.int 5), E.var "place"], E.tup [E.const (.str "x"), E.const (.int 1)]], E.tup [E.const (.str "proceed")]], E.var "wide"]])) (S.nil))) (S.seq (S.asg "keys" (E.comp [] (S.b1 "code") (E.var "codes") (T.yes) (E.attr C_ClauseCode "key" (E.var "code")))) (S.seq (S.asg "calls" (E.bin .Add (E.list [E.tup [E.const (.str "var")], E.tup [E.const (.str "list")], E.tup [E.const (.str "const"), E.tup [E.const (.int 5), E.bin .Pow (E.const (.int 10)) (E.const (.int 40))]], E.tup [E.const (.str "struct"), E.const (.int 9999)]]) (E.var "keys"))) (S.seq (S.asg "blocks" (E.list [E.call P.index_block [E.var "signs", E.var "name", E.var "codes"], E.call P.chain_block [E.var "signs", E.var "name", E.var "codes"], E.call P.group_block [E.var "signs", E.var "name", E.var "codes"]])) (S.seq (S.forIn (S.b1 "call") (E.bin .Add (E.var "calls") (E.list [E.call P.law_key [E.var "row"]])) (S.seq (S.asg "due" (E.compR ["call", "keys"] (S.b1 "place") (E.var "many") (T.of (E.call P.law_matches [E.item (E.var "keys") (E.var "place"), E.var "call"])) (E.var "place"))) (S.seq (S.iff (T.or [T.cmp .NotEq (E.call P.candidates [E.var "codes", E.var "call"]) (E.var "due"), T.cmp .NotEq (E.call P.leaves_choice [E.var "codes", E.var "call"]) (E.cmp .Gt (E.len (E.var "due")) (E.const (.int 1)))]) (S.seq (S.ret (E.const (.bool false))) (S.nil)) (S.nil)) (S.nil)))) (S.seq (S.iff (T.or [T.not (T.of (E.call P.check_index [E.var "codes", E.item (E.var "blocks") (E.const (.int 0)), E.const (.bool true)])), T.not (T.of (E.call P.check_index [E.var "codes", E.item (E.var "blocks") (E.const (.int 1)), E.const (.bool false)])), T.not (T.of (E.call P.check_index [E.var "codes", E.item (E.var "blocks") (E.const (.int 2)), E.const (.bool false)]))]) (S.seq (S.ret (E.const (.bool false))) (S.nil)) (S.nil)) (S.seq (S.asg "block" (E.mklist (E.item (E.var "blocks") (E.bin .Mod (E.call P.law_next [E.var "row"]) (E.const (.int 3)))))) (S.seq (S.asg "block" (E.call P.law_spoiled [E.var "row", E.var "block", E.var "many"])) (S.seq (S.forIn (S.b1 "call") (E.var "calls") (S.seq (S.iff (T.cmp .NotEq (E.call P.tried_clauses [E.var "block", E.var "many", E.var "call"]) (E.comp [] (S.b2 "place" "left") (E.call P.law_visits [E.var "block", E.var "many", E.var "wide", E.var "call"]) (T.yes) (E.var "place"))) (S.seq (S.ret (E.const (.bool false))) (S.nil)) (S.nil)) (S.nil))) (S.seq (S.forIn (S.b1 "exact") (E.list [E.const (.bool true), E.const (.bool false)]) (S.seq (S.iff (T.cmp .NotEq (E.call P.check_index [E.var "codes", E.var "block", E.var "exact"]) (E.call P.law_checked [E.var "block", E.var "keys", E.var "calls", E.var "wide", E.var "exact"])) (S.seq (S.ret (E.const (.bool false))) (S.nil)) (S.nil)) (S.nil))) (S.seq (S.ret (E.const (.bool true))) (S.nil)))))))))))))))))
noncomputable def law : Fn := fnOf ["script"] law_b
end P
theorem SimS.cont {C : Cx} {k : Nat} {nm : List (Str × NameKind)} {pos : Pos} : SimS C k nm (.Continue pos) S.cont := by
  refine ⟨?_⟩
  intro A env s μ H m r en hn F R fl m' H' hf
  cases hf
  show wpAny _ A (do standAt pos; pure Flow.cont) _ _ s
  exact wpAny_bind (wpAny_standAt (wpAny_pure ⟨μ, .refl R, F, trivial⟩))
theorem SimFn.stub {C : Cx} {k : Nat} {a : Addr} : SimFn C k a (fun _ _ => none) := ⟨fun _ _ _ _ _ _ _ _ _ _ _ h => nomatch h⟩
theorem free1 {nm : List (Str × NameKind)} {scope : Scope} {x : String} (h1 : nm.lookup (Str.ofString x) = some .cell) (h2 : (relab nm scope.names).lookup (Str.ofString x) = some .cell) : Free nm scope [x] := by
  intro y hy
  rw [List.mem_singleton] at hy; subst hy
  exact ⟨h1, h2⟩
theorem free2 {nm : List (Str × NameKind)} {scope : Scope} {x z : String} (h1 : nm.lookup (Str.ofString x) = some .cell) (h2 : (relab nm scope.names).lookup (Str.ofString x) = some .cell) (h3 : nm.lookup (Str.ofString z) = some .cell) (h4 : (relab nm scope.names).lookup (Str.ofString z) = some .cell) : Free nm scope [x, z] := by
  intro y hy
  rcases List.mem_cons.mp hy with rfl | hy
  · exact ⟨h1, h2⟩
  · rw [List.mem_singleton] at hy; subst hy
    exact ⟨h3, h4⟩
noncomputable def esOf (P : Params) : List DictEntry := match (K P).lookup mainGlobals with
  | some ⟨_, _, .dict es _, _⟩ => es.toList
  | _ => []
noncomputable def mgOf (P : Params) (x : Str) : Option Value := ((esOf P).find? fun e => e.key.isStr x).map (·.val)
noncomputable def cx (w : World) (h0 : Heap) (mb : Str → Option Value) : Cx := ⟨Challenge.rw_no0168_01.row.prog, w, h0, K w.params, mgOf w.params, mb⟩
structure Good (w : World) (h0 : Heap) (mb : Str → Option Value) : Prop where
  ok : (cx w h0 mb).Ok
  len : mb (Str.ofString "len") = some (.builtin "len")
  range : mb (Str.ofString "range") = some (.type "range")
  list : mb (Str.ofString "list") = some (.type "list")
  tuple : mb (Str.ofString "tuple") = some (.type "tuple")
noncomputable def fd? (P : Params) (a : Addr) : Option FuncData := match (K P).lookup a with
  | some ⟨_, _, .func fd, _⟩ => some fd
  | _ => none
noncomputable def fd (P : Params) (a : Addr) : FuncData := match fd? P a with
  | some fd => fd
  | none => { name := "", qualname := "", params := { posonlyargs := [], args := [], vararg := none, kwonlyargs := [], kw_defaults := [], kwarg := none, defaults := [] }, body := .stmts [], scope := { kind := .function, names := [] , isGenerator := false, isCoroutine := false }, globals := 0, closure := [], defaults := .none, kwdefaults := .none, pyModule := .none, code := .none }
noncomputable def bd (P : Params) (a : Addr) : List Stmt := match (fd P a).body with
  | .stmts b => b
  | _ => []
noncomputable def isStmts : FuncBody → Bool
  | .stmts _ => true
  | _ => false
noncomputable def fnB (P : Params) (a : Addr) (ps : List String) : Bool :=
  (fd? P a).isSome && codeIn (K P) (fd P a).code (fd P a).qualname && isStmts (fd P a).body && (fd P a).closure.isEmpty && (fd P a).globals == mainGlobals && (fd P a).builtins == builtinsNs && (fd P a).scope.kind == .function &&
    !(fd P a).scope.isCoroutine && !(fd P a).scope.isGenerator && (ps.all fun x => (fd P a).scope.names.lookup (Str.ofString x) == some .local || (fd P a).scope.names.lookup (Str.ofString x) == some .cell) && decide (ps.map Str.ofString).Nodup && decide ((fd P a).scope.names.map (·.1)).Nodup
section
variable {w : World} {h0 : Heap} {mb : Str → Option Value}
theorem fnOk_of {a : Addr} {ps : List String} (h : fnB w.params a ps = true) (bind : ∀ vs : List Value, vs.length = ps.length → bindArgs (fd w.params a) ⟨vs, []⟩ = pure ((ps.map Str.ofString).zip vs)) : FnOk (cx w h0 mb) a (fd w.params a) ps (bd w.params a) := by
  simp only [fnB, Bool.and_eq_true, beq_iff_eq, Bool.not_eq_true', decide_eq_true_eq, List.all_eq_true, Bool.or_eq_true, List.isEmpty_iff] at h
  obtain ⟨⟨⟨⟨⟨⟨⟨⟨⟨⟨⟨h1, h2⟩, h3⟩, h4⟩, h5⟩, h6⟩, h7⟩, h8⟩, h9⟩, h10⟩, h11⟩, h12⟩ := h
  refine ⟨?_, h2, ?_, bind, h4, h5, h6, h7, h8, h9, h10, h11, h12⟩
  · obtain ⟨f, hf⟩ := Option.isSome_iff_exists.mp h1
    have e : fd w.params a = f := by unfold fd; rw [hf]
    rw [e]
    unfold fd? at hf
    split at hf
    · rename_i hl
      cases hf
      exact ⟨_, hl, rfl⟩
    · cases hf
  · unfold bd
    cases hb : (fd w.params a).body with
    | stmts b => rfl
    | _ => rw [hb] at h3; cases h3
theorem vs0 {P : List Value → Prop} (h : P []) : ∀ vs : List Value, vs.length = 0 → P vs
  | [], _ => h
theorem vsS {P : List Value → Prop} {n : Nat} (h : ∀ a, ∀ vs : List Value, vs.length = n → P (a :: vs)) : ∀ vs : List Value, vs.length = n + 1 → P vs
  | a :: vs, e => h a vs (Nat.succ.inj e)
theorem vs1 {P : List Value → Prop} (h : ∀ a, P [a]) : ∀ vs : List Value, vs.length = 1 → P vs := vsS fun a => vs0 (h a)
theorem vs2 {P : List Value → Prop} (h : ∀ a b, P [a, b]) : ∀ vs : List Value, vs.length = 2 → P vs := vsS fun a => vs1 (h a)
theorem vs3 {P : List Value → Prop} (h : ∀ a b c, P [a, b, c]) : ∀ vs : List Value, vs.length = 3 → P vs := vsS fun a => vs2 (h a)
theorem vs4 {P : List Value → Prop} (h : ∀ a b c d, P [a, b, c, d]) : ∀ vs : List Value, vs.length = 4 → P vs := vsS fun a => vs3 (h a)
theorem vs5 {P : List Value → Prop} (h : ∀ a b c d e, P [a, b, c, d, e]) : ∀ vs : List Value, vs.length = 5 → P vs := vsS fun a => vs4 (h a)
end
section
variable {w : World} {h0 : Heap} {mb : Str → Option Value}
theorem gv_CON (g : Good w h0 mb) : GV (cx w h0 mb) "CON" (.int 4) := ⟨.int 4 381, by kernel_rfl, fun μ h _ => .int _ _⟩
theorem gv_FAIL_LABEL (g : Good w h0 mb) : GV (cx w h0 mb) "FAIL_LABEL" (.int (-1)) := ⟨.int (-1) 392, by kernel_rfl, fun μ h _ => .int _ _⟩
theorem gv_F_MINUS (g : Good w h0 mb) : GV (cx w h0 mb) "F_MINUS" (.int 13) := ⟨.int 13 244, by kernel_rfl, fun μ h _ => .int _ _⟩
theorem gv_F_MINUS1 (g : Good w h0 mb) : GV (cx w h0 mb) "F_MINUS1" (.int 12) := ⟨.int 12 242, by kernel_rfl, fun μ h _ => .int _ _⟩
theorem gv_F_PLUS (g : Good w h0 mb) : GV (cx w h0 mb) "F_PLUS" (.int 14) := ⟨.int 14 246, by kernel_rfl, fun μ h _ => .int _ _⟩
theorem gv_INT (g : Good w h0 mb) : GV (cx w h0 mb) "INT" (.int 5) := ⟨.int 5 383, by kernel_rfl, fun μ h _ => .int _ _⟩
theorem gv_LIST_KEY (g : Good w h0 mb) : GV (cx w h0 mb) "LIST_KEY" (.tup [.str "list"]) := ⟨.ref 161, by kernel_rfl, fun μ h b => .tup (vs := [.str (Str.ofString "list") 389]) (b _ _ (g.ok.X _ _ (by kernel_rfl))) (.cons (.str _ _) (.nil))⟩
theorem gv_VAR_KEY (g : Good w h0 mb) : GV (cx w h0 mb) "VAR_KEY" (.tup [.str "var"]) := ⟨.ref 160, by kernel_rfl, fun μ h b => .tup (vs := [.str (Str.ofString "var") 387]) (b _ _ (g.ok.X _ _ (by kernel_rfl))) (.cons (.str _ _) (.nil))⟩
theorem gb_len (g : Good w h0 mb) : GB (cx w h0 mb) "len" (.builtin "len") := .inl ⟨by kernel_rfl, g.len⟩
theorem gb_range (g : Good w h0 mb) : GB (cx w h0 mb) "range" (.type "range") := .inl ⟨by kernel_rfl, g.range⟩
theorem gb_list (g : Good w h0 mb) : GB (cx w h0 mb) "list" (.type "list") := .inl ⟨by kernel_rfl, g.list⟩
theorem gb_tuple (g : Good w h0 mb) : GB (cx w h0 mb) "tuple" (.type "tuple") := .inl ⟨by kernel_rfl, g.tuple⟩
theorem gb_BlockBuilder (_ : Good w h0 mb) : GB (cx w h0 mb) "BlockBuilder" (.ref C_BlockBuilder) := .inr (by kernel_rfl)
theorem kp_BlockBuilder (_ : Good w h0 mb) : keepIn (cx w h0 mb).K (.ref C_BlockBuilder) = true := by kernel_rfl
theorem mk_BlockBuilder (_ : Good w h0 mb) : makesIn (cx w h0 mb).K C_BlockBuilder = true := by kernel_rfl
theorem in_BlockBuilder (_ : Good w h0 mb) : findIn (cx w h0 mb).K (.ref C_BlockBuilder) "__init__" = some (some (.ref 210)) := by kernel_rfl
theorem cls_BlockBuilder (_ : Good w h0 mb) : ClsOk (cx w h0 mb) C_BlockBuilder := ⟨by kernel_rfl, by kernel_rfl, by kernel_rfl, by kernel_rfl, by kernel_rfl⟩
theorem gb_ClauseCode (_ : Good w h0 mb) : GB (cx w h0 mb) "ClauseCode" (.ref C_ClauseCode) := .inr (by kernel_rfl)
theorem kp_ClauseCode (_ : Good w h0 mb) : keepIn (cx w h0 mb).K (.ref C_ClauseCode) = true := by kernel_rfl
theorem mk_ClauseCode (_ : Good w h0 mb) : makesIn (cx w h0 mb).K C_ClauseCode = true := by kernel_rfl
theorem in_ClauseCode (_ : Good w h0 mb) : findIn (cx w h0 mb).K (.ref C_ClauseCode) "__init__" = some (some (.ref 369)) := by kernel_rfl
theorem cls_ClauseCode (_ : Good w h0 mb) : ClsOk (cx w h0 mb) C_ClauseCode := ⟨by kernel_rfl, by kernel_rfl, by kernel_rfl, by kernel_rfl, by kernel_rfl⟩
theorem gb_Symbols (_ : Good w h0 mb) : GB (cx w h0 mb) "Symbols" (.ref C_Symbols) := .inr (by kernel_rfl)
theorem kp_Symbols (_ : Good w h0 mb) : keepIn (cx w h0 mb).K (.ref C_Symbols) = true := by kernel_rfl
theorem mk_Symbols (_ : Good w h0 mb) : makesIn (cx w h0 mb).K C_Symbols = true := by kernel_rfl
theorem in_Symbols (_ : Good w h0 mb) : findIn (cx w h0 mb).K (.ref C_Symbols) "__init__" = some (some (.ref 82)) := by kernel_rfl
theorem cls_Symbols (_ : Good w h0 mb) : ClsOk (cx w h0 mb) C_Symbols := ⟨by kernel_rfl, by kernel_rfl, by kernel_rfl, by kernel_rfl, by kernel_rfl⟩
theorem ty_BlockBuilder_init (_ : Good w h0 mb) : typeIn (cx w h0 mb).K (.ref 210) = some (.type "function") := by kernel_rfl
theorem ty_ClauseCode_init (_ : Good w h0 mb) : typeIn (cx w h0 mb).K (.ref 369) = some (.type "function") := by kernel_rfl
theorem ty_Symbols_init (_ : Good w h0 mb) : typeIn (cx w h0 mb).K (.ref 82) = some (.type "function") := by kernel_rfl
noncomputable def nm_ClauseCode_init : List (Str × NameKind) := [(Str.ofString "self", .local), (Str.ofString "functor", .local), (Str.ofString "key", .local), (Str.ofString "instrs", .local), (Str.ofString "used", .local)]
theorem ok_ClauseCode_init (g : Good w h0 mb) : FnOk (cx w h0 mb) 369 (fd w.params 369) ["self", "functor", "key", "instrs", "used"] (bd w.params 369) := fnOk_of (by kernel_rfl) (vs5 fun _ _ _ _ _ => by kernel_rfl)
theorem sb_ClauseCode_init (g : Good w h0 mb) : SimSs (cx w h0 mb) 0 nm_ClauseCode_init (bd w.params 369) P.ClauseCode_init_b :=
  .cons (.asgAttr g.ok (cls_ClauseCode g) (.local rfl rfl) (.local rfl rfl) rfl (fun _ => rfl)) (.cons (.asgAttr g.ok (cls_ClauseCode g) (.local rfl rfl) (.local rfl rfl) rfl (fun _ => rfl)) (.cons (.asgAttr g.ok (cls_ClauseCode g) (.local rfl rfl) (.local rfl rfl) rfl (fun _ => rfl)) (.cons (.asgAttr g.ok (cls_ClauseCode g) (.local rfl rfl) (.local rfl rfl) rfl (fun _ => rfl)) .nil)))
theorem sim_ClauseCode_init (g : Good w h0 mb) : SimFn (cx w h0 mb) 1 369 P.ClauseCode_init := SimFn.of g.ok (ok_ClauseCode_init g) ((by kernel_rfl : (fd w.params 369).scope.names = nm_ClauseCode_init) ▸ sb_ClauseCode_init g)
noncomputable def nm_Symbols_atom : List (Str × NameKind) := [(Str.ofString "self", .local), (Str.ofString "text", .local), (Str.ofString "found", .local), (Str.ofString "number", .local), (Str.ofString "len", .globalImplicit)]
theorem ok_Symbols_atom (g : Good w h0 mb) : FnOk (cx w h0 mb) 89 (fd w.params 89) ["self", "text"] (bd w.params 89) := fnOk_of (by kernel_rfl) (vs2 fun _ _ => by kernel_rfl)
theorem sb_Symbols_atom (g : Good w h0 mb) : SimSs (cx w h0 mb) 0 nm_Symbols_atom (bd w.params 89) P.Symbols_atom_b :=
  .cons (.asg (.dget g.ok (.attr g.ok (cls_Symbols g) (.local rfl rfl) rfl (fun _ => rfl)) (.local rfl rfl) (.neg .int) rfl rfl (fun _ => rfl) rfl) (.inl rfl) (fun _ _ => rfl)) (.cons (.iff (.cmp g.ok (.local rfl rfl) .int rfl) (.cons (.ret (.local rfl rfl)) .nil) .nil) (.cons (.asg (.len g.ok (.attr g.ok (cls_Symbols g) (.local rfl rfl) rfl (fun _ => rfl)) (gb_len g) rfl rfl) (.inl rfl) (fun _ _ => rfl)) (.cons (.expr (.lmeth (.attr g.ok (cls_Symbols g) (.local rfl rfl) rfl (fun _ => rfl)) (.cons (.local rfl rfl) rfl .nil) PySem.F.slot_list_append PySem.F.type_list_append lm_append (fun _ => rfl) rfl rfl) (fun _ => rfl)) (.cons (.asgItem g.ok (.local rfl rfl) (.attr g.ok (cls_Symbols g) (.local rfl rfl) rfl (fun _ => rfl)) (.local rfl rfl) (fun _ => rfl)) (.cons (.ret (.local rfl rfl)) .nil)))))
theorem sim_Symbols_atom (g : Good w h0 mb) : SimFn (cx w h0 mb) 1 89 P.Symbols_atom := SimFn.of g.ok (ok_Symbols_atom g) ((by kernel_rfl : (fd w.params 89).scope.names = nm_Symbols_atom) ▸ sb_Symbols_atom g)
noncomputable def nm_Symbols_functor : List (Str × NameKind) := [(Str.ofString "self", .local), (Str.ofString "atom", .local), (Str.ofString "arity", .local), (Str.ofString "key", .local), (Str.ofString "found", .local), (Str.ofString "number", .local), (Str.ofString "len", .globalImplicit)]
theorem ok_Symbols_functor (g : Good w h0 mb) : FnOk (cx w h0 mb) 103 (fd w.params 103) ["self", "atom", "arity"] (bd w.params 103) := fnOk_of (by kernel_rfl) (vs3 fun _ _ _ => by kernel_rfl)
theorem sb_Symbols_functor (g : Good w h0 mb) : SimSs (cx w h0 mb) 0 nm_Symbols_functor (bd w.params 103) P.Symbols_functor_b :=
  .cons (.asg (.tup (.cons (.local rfl rfl) rfl (.cons (.local rfl rfl) rfl .nil)) rfl) (.inl rfl) (fun _ _ => rfl)) (.cons (.asg (.dget g.ok (.attr g.ok (cls_Symbols g) (.local rfl rfl) rfl (fun _ => rfl)) (.local rfl rfl) (.neg .int) rfl rfl (fun _ => rfl) rfl) (.inl rfl) (fun _ _ => rfl)) (.cons (.iff (.cmp g.ok (.local rfl rfl) .int rfl) (.cons (.ret (.local rfl rfl)) .nil) .nil) (.cons (.asg (.len g.ok (.attr g.ok (cls_Symbols g) (.local rfl rfl) rfl (fun _ => rfl)) (gb_len g) rfl rfl) (.inl rfl) (fun _ _ => rfl)) (.cons (.expr (.lmeth (.attr g.ok (cls_Symbols g) (.local rfl rfl) rfl (fun _ => rfl)) (.cons (.local rfl rfl) rfl .nil) PySem.F.slot_list_append PySem.F.type_list_append lm_append (fun _ => rfl) rfl rfl) (fun _ => rfl)) (.cons (.asgItem g.ok (.local rfl rfl) (.attr g.ok (cls_Symbols g) (.local rfl rfl) rfl (fun _ => rfl)) (.local rfl rfl) (fun _ => rfl)) (.cons (.ret (.local rfl rfl)) .nil))))))
theorem sim_Symbols_functor (g : Good w h0 mb) : SimFn (cx w h0 mb) 1 103 P.Symbols_functor := SimFn.of g.ok (ok_Symbols_functor g) ((by kernel_rfl : (fd w.params 103).scope.names = nm_Symbols_functor) ▸ sb_Symbols_functor g)
noncomputable def nm_Symbols_func : List (Str × NameKind) := [(Str.ofString "self", .local), (Str.ofString "text", .local), (Str.ofString "arity", .local)]
theorem ok_Symbols_func (g : Good w h0 mb) : FnOk (cx w h0 mb) 110 (fd w.params 110) ["self", "text", "arity"] (bd w.params 110) := fnOk_of (by kernel_rfl) (vs3 fun _ _ _ => by kernel_rfl)
theorem sb_Symbols_func (g : Good w h0 mb) : SimSs (cx w h0 mb) 1 nm_Symbols_func (bd w.params 110) P.Symbols_func_b :=
  .cons (.ret (.meth g.ok (.local rfl rfl) (.cons (.meth g.ok (.local rfl rfl) (.cons (.local rfl rfl) rfl .nil) (cls_Symbols g) (sim_Symbols_atom g) rfl rfl rfl rfl (fun _ => rfl) rfl rfl) rfl (.cons (.local rfl rfl) rfl .nil)) (cls_Symbols g) (sim_Symbols_functor g) rfl rfl rfl rfl (fun _ => rfl) rfl rfl)) .nil
theorem sim_Symbols_func (g : Good w h0 mb) : SimFn (cx w h0 mb) 2 110 P.Symbols_func := SimFn.of g.ok (ok_Symbols_func g) ((by kernel_rfl : (fd w.params 110).scope.names = nm_Symbols_func) ▸ sb_Symbols_func g)
noncomputable def nm_fixed_atoms : List (Str × NameKind) := []
theorem ok_fixed_atoms (g : Good w h0 mb) : FnOk (cx w h0 mb) 61 (fd w.params 61) [] (bd w.params 61) := fnOk_of (by kernel_rfl) (vs0 (by kernel_rfl))
theorem sb_fixed_atoms (g : Good w h0 mb) : SimSs (cx w h0 mb) 0 nm_fixed_atoms (bd w.params 61) P.fixed_atoms_b :=
  .cons (.ret (.tup (.cons .str rfl (.cons .str rfl (.cons .str rfl (.cons .str rfl (.cons .str rfl (.cons .str rfl (.cons .str rfl (.cons .str rfl (.cons .str rfl (.cons .str rfl (.cons .str rfl (.cons .str rfl (.cons .str rfl (.cons .str rfl (.cons .str rfl (.cons .str rfl (.cons .str rfl (.cons .str rfl (.cons .str rfl (.cons .str rfl (.cons .str rfl (.cons .str rfl (.cons .str rfl (.cons .str rfl (.cons .str rfl (.cons .str rfl (.cons .str rfl (.cons .str rfl (.cons .str rfl .nil))))))))))))))))))))))))))))) rfl)) .nil
theorem sim_fixed_atoms (g : Good w h0 mb) : SimFn (cx w h0 mb) 1 61 P.fixed_atoms := SimFn.of g.ok (ok_fixed_atoms g) ((by kernel_rfl : (fd w.params 61).scope.names = nm_fixed_atoms) ▸ sb_fixed_atoms g)
noncomputable def nm_fixed_functors : List (Str × NameKind) := []
theorem ok_fixed_functors (g : Good w h0 mb) : FnOk (cx w h0 mb) 68 (fd w.params 68) [] (bd w.params 68) := fnOk_of (by kernel_rfl) (vs0 (by kernel_rfl))
theorem sb_fixed_functors (g : Good w h0 mb) : SimSs (cx w h0 mb) 0 nm_fixed_functors (bd w.params 68) P.fixed_functors_b :=
  .cons (.ret (.tup (.cons (.tup (.cons .str rfl (.cons .int rfl .nil)) rfl) rfl (.cons (.tup (.cons .str rfl (.cons .int rfl .nil)) rfl) rfl (.cons (.tup (.cons .str rfl (.cons .int rfl .nil)) rfl) rfl (.cons (.tup (.cons .str rfl (.cons .int rfl .nil)) rfl) rfl (.cons (.tup (.cons .str rfl (.cons .int rfl .nil)) rfl) rfl (.cons (.tup (.cons .str rfl (.cons .int rfl .nil)) rfl) rfl (.cons (.tup (.cons .str rfl (.cons .int rfl .nil)) rfl) rfl (.cons (.tup (.cons .str rfl (.cons .int rfl .nil)) rfl) rfl (.cons (.tup (.cons .str rfl (.cons .int rfl .nil)) rfl) rfl (.cons (.tup (.cons .str rfl (.cons .int rfl .nil)) rfl) rfl (.cons (.tup (.cons .str rfl (.cons .int rfl .nil)) rfl) rfl (.cons (.tup (.cons .str rfl (.cons .int rfl .nil)) rfl) rfl (.cons (.tup (.cons .str rfl (.cons .int rfl .nil)) rfl) rfl (.cons (.tup (.cons .str rfl (.cons .int rfl .nil)) rfl) rfl (.cons (.tup (.cons .str rfl (.cons .int rfl .nil)) rfl) rfl (.cons (.tup (.cons .str rfl (.cons .int rfl .nil)) rfl) rfl (.cons (.tup (.cons .str rfl (.cons .int rfl .nil)) rfl) rfl (.cons (.tup (.cons .str rfl (.cons .int rfl .nil)) rfl) rfl (.cons (.tup (.cons .str rfl (.cons .int rfl .nil)) rfl) rfl (.cons (.tup (.cons .str rfl (.cons .int rfl .nil)) rfl) rfl (.cons (.tup (.cons .str rfl (.cons .int rfl .nil)) rfl) rfl (.cons (.tup (.cons .str rfl (.cons .int rfl .nil)) rfl) rfl (.cons (.tup (.cons .str rfl (.cons .int rfl .nil)) rfl) rfl (.cons (.tup (.cons .str rfl (.cons .int rfl .nil)) rfl) rfl (.cons (.tup (.cons .str rfl (.cons .int rfl .nil)) rfl) rfl (.cons (.tup (.cons .str rfl (.cons .int rfl .nil)) rfl) rfl (.cons (.tup (.cons .str rfl (.cons .int rfl .nil)) rfl) rfl (.cons (.tup (.cons .str rfl (.cons .int rfl .nil)) rfl) rfl (.cons (.tup (.cons .str rfl (.cons .int rfl .nil)) rfl) rfl (.cons (.tup (.cons .str rfl (.cons .int rfl .nil)) rfl) rfl (.cons (.tup (.cons .str rfl (.cons .int rfl .nil)) rfl) rfl (.cons (.tup (.cons .str rfl (.cons .int rfl .nil)) rfl) rfl .nil)))))))))))))))))))))))))))))))) rfl)) .nil
theorem sim_fixed_functors (g : Good w h0 mb) : SimFn (cx w h0 mb) 1 68 P.fixed_functors := SimFn.of g.ok (ok_fixed_functors g) ((by kernel_rfl : (fd w.params 68).scope.names = nm_fixed_functors) ▸ sb_fixed_functors g)
noncomputable def nm_Symbols_init : List (Str × NameKind) := [(Str.ofString "self", .local), (Str.ofString "text", .local), (Str.ofString "row", .local), (Str.ofString "fixed_atoms", .globalImplicit), (Str.ofString "fixed_functors", .globalImplicit)]
theorem ok_Symbols_init (g : Good w h0 mb) : FnOk (cx w h0 mb) 82 (fd w.params 82) ["self"] (bd w.params 82) := fnOk_of (by kernel_rfl) (vs1 fun _ => by kernel_rfl)
theorem sb_Symbols_init (g : Good w h0 mb) : SimSs (cx w h0 mb) 2 nm_Symbols_init (bd w.params 82) P.Symbols_init_b :=
  .cons (.asgAttr g.ok (cls_Symbols g) (.list .nil rfl) (.local rfl rfl) rfl (fun _ => rfl)) (.cons (.asgAttr g.ok (cls_Symbols g) .dict0 (.local rfl rfl) rfl (fun _ => rfl)) (.cons (.asgAttr g.ok (cls_Symbols g) (.list .nil rfl) (.local rfl rfl) rfl (fun _ => rfl)) (.cons (.asgAttr g.ok (cls_Symbols g) .dict0 (.local rfl rfl) rfl (fun _ => rfl)) (.cons (.forIn (.call g.ok .nil (sim_fixed_atoms g) (.inr rfl) rfl rfl rfl rfl) (.one (.inl rfl)) (.cons (.expr (.meth g.ok (.local rfl rfl) (.cons (.local rfl rfl) rfl .nil) (cls_Symbols g) (sim_Symbols_atom g) rfl rfl rfl rfl (fun _ => rfl) rfl rfl) (fun _ => rfl)) .nil) (fun _ _ => rfl)) (.cons (.forIn (.call g.ok .nil (sim_fixed_functors g) (.inr rfl) rfl rfl rfl rfl) (.one (.inl rfl)) (.cons (.expr (.meth g.ok (.local rfl rfl) (.cons (.item g.ok (.local rfl rfl) .int) rfl (.cons (.item g.ok (.local rfl rfl) .int) rfl .nil)) (cls_Symbols g) (sim_Symbols_func g) rfl rfl rfl rfl (fun _ => rfl) rfl rfl) (fun _ => rfl)) .nil) (fun _ _ => rfl)) .nil)))))
theorem sim_Symbols_init (g : Good w h0 mb) : SimFn (cx w h0 mb) 3 82 P.Symbols_init := SimFn.of g.ok (ok_Symbols_init g) ((by kernel_rfl : (fd w.params 82).scope.names = nm_Symbols_init) ▸ sb_Symbols_init g)
noncomputable def nm_law_matches : List (Str × NameKind) := [(Str.ofString "key", .local), (Str.ofString "other", .local)]
theorem ok_law_matches (g : Good w h0 mb) : FnOk (cx w h0 mb) 404 (fd w.params 404) ["key", "other"] (bd w.params 404) := fnOk_of (by kernel_rfl) (vs2 fun _ _ => by kernel_rfl)
theorem sb_law_matches (g : Good w h0 mb) : SimSs (cx w h0 mb) 0 nm_law_matches (bd w.params 404) P.law_matches_b :=
  .cons (.ret (.bor2 (.cmp g.ok (.local rfl rfl) (.tup (.cons .str rfl .nil) rfl) rfl) (.bor2 (.cmp g.ok (.local rfl rfl) (.tup (.cons .str rfl .nil) rfl) rfl) (.bor1 (.cmp g.ok (.local rfl rfl) (.local rfl rfl) rfl))))) .nil
theorem sim_law_matches (g : Good w h0 mb) : SimFn (cx w h0 mb) 1 404 P.law_matches := SimFn.of g.ok (ok_law_matches g) ((by kernel_rfl : (fd w.params 404).scope.names = nm_law_matches) ▸ sb_law_matches g)
noncomputable def nm_law_target : List (Str × NameKind) := [(Str.ofString "ins", .local), (Str.ofString "key", .local), (Str.ofString "word", .local), (Str.ofString "label", .local)]
theorem ok_law_target (g : Good w h0 mb) : FnOk (cx w h0 mb) 411 (fd w.params 411) ["ins", "key"] (bd w.params 411) := fnOk_of (by kernel_rfl) (vs2 fun _ _ => by kernel_rfl)
theorem sb_law_target (g : Good w h0 mb) : SimSs (cx w h0 mb) 0 nm_law_target (bd w.params 411) P.law_target_b :=
  .cons (.iff (.cmp g.ok (.item g.ok (.local rfl rfl) .int) .str rfl) (.cons (.ret (.item g.ok (.local rfl rfl) (.bin .int (.lmeth (.list (.cons .str rfl (.cons .str rfl (.cons .str rfl (.cons .str rfl .nil)))) rfl) (.cons (.item g.ok (.local rfl rfl) .int) rfl .nil) PySem.F.slot_list_index PySem.F.type_list_index lm_index (fun _ => rfl) rfl rfl)))) .nil) .nil) (.cons (.iff (.cmp g.ok (.item g.ok (.local rfl rfl) .int) (.tup (.cons .str rfl (.cons .str rfl .nil)) rfl) rfl) (.cons (.forIn (.item g.ok (.local rfl rfl) .int) (.two (.inl rfl) (.inl rfl)) (.cons (.iff (.cmp g.ok (.local rfl rfl) (.item g.ok (.local rfl rfl) .int) rfl) (.cons (.ret (.local rfl rfl)) .nil) .nil) .nil) (fun _ _ => rfl)) (.cons (.ret (.item g.ok (.local rfl rfl) .int)) .nil)) .nil) (.cons (.ret (.item g.ok (.local rfl rfl) .int)) .nil))
theorem sim_law_target (g : Good w h0 mb) : SimFn (cx w h0 mb) 1 411 P.law_target := SimFn.of g.ok (ok_law_target g) ((by kernel_rfl : (fd w.params 411).scope.names = nm_law_target) ▸ sb_law_target g)
noncomputable def nm_law_visits : List (Str × NameKind) := [(Str.ofString "block", .local), (Str.ofString "many", .local), (Str.ofString "wide", .local), (Str.ofString "key", .local), (Str.ofString "where", .local), (Str.ofString "place", .local), (Str.ofString "left", .local), (Str.ofString "found", .local), (Str.ofString "at", .local), (Str.ofString "turn", .local), (Str.ofString "ins", .local), (Str.ofString "clause", .local), (Str.ofString "goal", .local), (Str.ofString "range", .globalImplicit), (Str.ofString "len", .globalImplicit), (Str.ofString "_law_target", .globalImplicit)]
theorem ok_law_visits (g : Good w h0 mb) : FnOk (cx w h0 mb) 418 (fd w.params 418) ["block", "many", "wide", "key"] (bd w.params 418) := fnOk_of (by kernel_rfl) (vs4 fun _ _ _ _ => by kernel_rfl)
theorem sb_law_visits (g : Good w h0 mb) : SimSs (cx w h0 mb) 1 nm_law_visits (bd w.params 418) P.law_visits_b :=
  .cons (.asg .dict0 (.inl rfl) (fun _ _ => rfl)) (.cons (.forR1 g.ok (.len g.ok (.local rfl rfl) (gb_len g) rfl rfl) (gb_range g) (.one (.inl rfl)) (.cons (.iff (.cmp g.ok (.item g.ok (.item g.ok (.local rfl rfl) (.local rfl rfl)) .int) .str rfl) (.cons (.iff (.cmp g.ok (.item g.ok (.item g.ok (.local rfl rfl) (.local rfl rfl)) .int) (.local rfl rfl) rfl) (.cons (.ret .none) .nil) .nil) (.cons (.asgItem g.ok (.local rfl rfl) (.local rfl rfl) (.item g.ok (.item g.ok (.local rfl rfl) (.local rfl rfl)) .int) (fun _ => rfl)) .nil)) .nil) .nil) rfl rfl) (.cons (.asg (.list .nil rfl) (.inl rfl) (fun _ _ => rfl)) (.cons (.asg (.list .nil rfl) (.inl rfl) (fun _ _ => rfl)) (.cons (.asg .int (.inl rfl) (fun _ _ => rfl)) (.cons (.forR1 g.ok .int (gb_range g) (.one (.inl rfl)) (.cons (.asg (.item g.ok (.local rfl rfl) (.local rfl rfl)) (.inl rfl) (fun _ _ => rfl)) (.cons (.asg (.neg .int) (.inl rfl) (fun _ _ => rfl)) (.cons (.iff (.cmp g.ok (.item g.ok (.local rfl rfl) .int) .str rfl) (.cons (.asg (.item g.ok (.local rfl rfl) .int) (.inl rfl) (fun _ _ => rfl)) .nil) .nil) (.cons (.iff (.chain g.ok .int (.local rfl rfl) (.local rfl rfl) rfl) (.cons (.expr (.lmeth (.local rfl rfl) (.cons (.tup (.cons (.local rfl rfl) rfl (.cons (.len g.ok (.local rfl rfl) (gb_len g) rfl rfl) rfl .nil)) rfl) rfl .nil) PySem.F.slot_list_append PySem.F.type_list_append lm_append (fun _ => rfl) rfl rfl) (fun _ => rfl)) (.cons (.asg (.neg .int) (.inl rfl) (fun _ _ => rfl)) .nil)) (.cons (.iff (.cmp g.ok (.item g.ok (.local rfl rfl) .int) .str rfl) (.cons (.inc .int rfl) (.cons .cont .nil)) (.cons (.iff (.cmp g.ok (.item g.ok (.local rfl rfl) .int) .str rfl) (.cons (.iff (.cmp g.ok (.item g.ok (.local rfl rfl) .int) (.local rfl rfl) rfl) (.cons (.ret .none) .nil) .nil) (.cons (.expr (.lmeth (.local rfl rfl) (.cons (.bin (.local rfl rfl) .int) rfl .nil) PySem.F.slot_list_append PySem.F.type_list_append lm_append (fun _ => rfl) rfl rfl) (fun _ => rfl)) .nil)) (.cons (.iff (.cmp g.ok (.item g.ok (.local rfl rfl) .int) .str rfl) (.cons (.asgItem g.ok (.bin (.local rfl rfl) .int) (.local rfl rfl) (.neg .int) (fun _ => rfl)) .nil) (.cons (.iff (.cmp g.ok (.item g.ok (.local rfl rfl) .int) .str rfl) (.cons (.expr (.lmeth (.local rfl rfl) .nil PySem.F.slot_list_pop PySem.F.type_list_pop lm_pop (fun _ => rfl) rfl rfl) (fun _ => rfl)) .nil) (.cons (.iff (.cmp g.ok (.item g.ok (.local rfl rfl) .int) (.tup (.cons .str rfl (.cons .str rfl (.cons .str rfl .nil))) rfl) rfl) (.cons (.ret .none) .nil) .nil) .nil)) .nil)) .nil)) (.cons (.asg (.call g.ok (.cons (.local rfl rfl) rfl (.cons (.local rfl rfl) rfl .nil)) (sim_law_target g) (.inr rfl) rfl rfl rfl rfl) (.inl rfl) (fun _ _ => rfl)) (.cons (.iff (.cmp g.ok (.local rfl rfl) .int rfl) (.cons (.iff (.cmp g.ok (.local rfl rfl) (.local rfl rfl) rfl) (.cons (.ret .none) .nil) .nil) (.cons (.asg (.item g.ok (.local rfl rfl) (.local rfl rfl)) (.inl rfl) (fun _ _ => rfl)) (.cons .cont .nil))) .nil) .nil)))) .nil)) (.cons (.iff (.nil (.local rfl rfl) (.inl ⟨rfl, rfl⟩)) (.cons (.ret (.local rfl rfl)) .nil) .nil) (.cons (.asg (.item g.ok (.local rfl rfl) (.neg .int)) (.inl rfl) (fun _ _ => rfl)) .nil)))))) rfl rfl) (.cons (.ret .none) .nil))))))
theorem sim_law_visits (g : Good w h0 mb) : SimFn (cx w h0 mb) 2 418 P.law_visits := SimFn.of g.ok (ok_law_visits g) ((by kernel_rfl : (fd w.params 418).scope.names = nm_law_visits) ▸ sb_law_visits g)
noncomputable def nm_law_checked : List (Str × NameKind) := [(Str.ofString "block", .local), (Str.ofString "keys", .cell), (Str.ofString "calls", .local), (Str.ofString "wide", .local), (Str.ofString "exact", .local), (Str.ofString "call", .cell), (Str.ofString "due", .cell), (Str.ofString "met", .local), (Str.ofString "range", .globalImplicit), (Str.ofString "len", .globalImplicit), (Str.ofString "_law_visits", .globalImplicit)]
theorem ok_law_checked (g : Good w h0 mb) : FnOk (cx w h0 mb) 428 (fd w.params 428) ["block", "keys", "calls", "wide", "exact"] (bd w.params 428) := fnOk_of (by kernel_rfl) (vs5 fun _ _ _ _ _ => by kernel_rfl)
theorem sb_law_checked (g : Good w h0 mb) : SimSs (cx w h0 mb) 2 nm_law_checked (bd w.params 428) P.law_checked_b :=
  .cons (.forIn (.local rfl rfl) (.one (.inr rfl)) (.cons (.asg (.compR g.ok ⟨rfl, by kernel_rfl, by kernel_rfl, by kernel_rfl, by decide +kernel⟩ (.len g.ok (.cell rfl rfl) (gb_len g) rfl rfl) rfl rfl (gb_range g) (.one rfl) (.one (.of (.call g.ok (.cons (.item g.ok (.cell rfl rfl) (.local rfl rfl)) rfl (.cons (.cell rfl rfl) rfl .nil)) (sim_law_matches g) (.inr rfl) rfl rfl rfl rfl) (fun _ _ => rfl))) (.local rfl rfl) (free2 (by kernel_rfl) (by kernel_rfl) (by kernel_rfl) (by kernel_rfl))) (.inr rfl) (swaps_no (by kernel_rfl))) (.cons (.asgComp rfl ⟨rfl, by kernel_rfl, by kernel_rfl, by kernel_rfl, by decide +kernel⟩ (.call g.ok (.cons (.local rfl rfl) rfl (.cons (.len g.ok (.cell rfl rfl) (gb_len g) rfl rfl) rfl (.cons (.local rfl rfl) rfl (.cons (.cell rfl rfl) rfl .nil)))) (sim_law_visits g) (.inr rfl) rfl rfl rfl rfl) (.two rfl rfl) .nil (.local rfl rfl) (fun _ h => nomatch h) (fun _ _ => rfl) (swaps_yes (by kernel_rfl) rfl (by kernel_rfl))) (.cons (.iff (.not (.of (.local rfl rfl) (fun _ _ => rfl))) (.cons (.asgComp rfl ⟨rfl, by kernel_rfl, by kernel_rfl, by kernel_rfl, by decide +kernel⟩ (.local rfl rfl) (.one rfl) (.one (.cmp g.ok (.local rfl rfl) (.cell rfl rfl) rfl)) (.local rfl rfl) (free1 (by kernel_rfl) (by kernel_rfl)) (fun _ _ => rfl) (swaps_yes (by kernel_rfl) rfl (by kernel_rfl))) .nil) .nil) (.cons (.iff (.cmp g.ok (.local rfl rfl) (.cell rfl rfl) rfl) (.cons (.ret .bool) .nil) .nil) .nil)))) (fun _ _ => rfl)) (.cons (.ret .bool) .nil)
theorem sim_law_checked (g : Good w h0 mb) : SimFn (cx w h0 mb) 3 428 P.law_checked := SimFn.of g.ok (ok_law_checked g) ((by kernel_rfl : (fd w.params 428).scope.names = nm_law_checked) ▸ sb_law_checked g)
noncomputable def nm_law_next : List (Str × NameKind) := [(Str.ofString "row", .local)]
theorem ok_law_next (g : Good w h0 mb) : FnOk (cx w h0 mb) 390 (fd w.params 390) ["row"] (bd w.params 390) := fnOk_of (by kernel_rfl) (vs1 fun _ => by kernel_rfl)
theorem sb_law_next (g : Good w h0 mb) : SimSs (cx w h0 mb) 0 nm_law_next (bd w.params 390) P.law_next_b :=
  .cons (.ret (.ife (.nil (.local rfl rfl) (.inr ⟨rfl, rfl⟩)) (.lmeth (.local rfl rfl) .nil PySem.F.slot_list_pop PySem.F.type_list_pop lm_pop (fun _ => rfl) rfl rfl) .int)) .nil
theorem sim_law_next (g : Good w h0 mb) : SimFn (cx w h0 mb) 1 390 P.law_next := SimFn.of g.ok (ok_law_next g) ((by kernel_rfl : (fd w.params 390).scope.names = nm_law_next) ▸ sb_law_next g)
noncomputable def nm_law_key : List (Str × NameKind) := [(Str.ofString "row", .local), (Str.ofString "kind", .local), (Str.ofString "_law_next", .globalImplicit), (Str.ofString "F_MINUS1", .globalImplicit), (Str.ofString "F_MINUS", .globalImplicit), (Str.ofString "F_PLUS", .globalImplicit), (Str.ofString "CON", .globalImplicit), (Str.ofString "INT", .globalImplicit)]
theorem ok_law_key (g : Good w h0 mb) : FnOk (cx w h0 mb) 397 (fd w.params 397) ["row"] (bd w.params 397) := fnOk_of (by kernel_rfl) (vs1 fun _ => by kernel_rfl)
theorem sb_law_key (g : Good w h0 mb) : SimSs (cx w h0 mb) 1 nm_law_key (bd w.params 397) P.law_key_b :=
  .cons (.asg (.bin (.call g.ok (.cons (.local rfl rfl) rfl .nil) (sim_law_next g) (.inr rfl) rfl rfl rfl rfl) .int) (.inl rfl) (fun _ _ => rfl)) (.cons (.iff (.cmp g.ok (.local rfl rfl) .int rfl) (.cons (.ret (.tup (.cons .str rfl .nil) rfl)) .nil) .nil) (.cons (.iff (.cmp g.ok (.local rfl rfl) .int rfl) (.cons (.ret (.tup (.cons .str rfl .nil) rfl)) .nil) .nil) (.cons (.iff (.cmp g.ok (.local rfl rfl) .int rfl) (.cons (.ret (.tup (.cons .str rfl (.cons (.item g.ok (.list (.cons (.glob g.ok (gv_F_MINUS1 g) rfl rfl) rfl (.cons (.glob g.ok (gv_F_MINUS g) rfl rfl) rfl (.cons (.glob g.ok (gv_F_PLUS g) rfl rfl) rfl .nil))) rfl) (.bin (.call g.ok (.cons (.local rfl rfl) rfl .nil) (sim_law_next g) (.inr rfl) rfl rfl rfl rfl) .int)) rfl .nil)) rfl)) .nil) .nil) (.cons (.ret (.tup (.cons .str rfl (.cons (.tup (.cons (.item g.ok (.list (.cons (.glob g.ok (gv_CON g) rfl rfl) rfl (.cons (.glob g.ok (gv_INT g) rfl rfl) rfl .nil)) rfl) (.bin (.local rfl rfl) .int)) rfl (.cons (.item g.ok (.list (.cons .int rfl (.cons .int rfl (.cons .int rfl (.cons (.bin .int .int) rfl .nil)))) rfl) (.bin (.call g.ok (.cons (.local rfl rfl) rfl .nil) (sim_law_next g) (.inr rfl) rfl rfl rfl rfl) .int)) rfl .nil)) rfl) rfl .nil)) rfl)) .nil))))
theorem sim_law_key (g : Good w h0 mb) : SimFn (cx w h0 mb) 2 397 P.law_key := SimFn.of g.ok (ok_law_key g) ((by kernel_rfl : (fd w.params 397).scope.names = nm_law_key) ▸ sb_law_key g)
noncomputable def nm_law_row : List (Str × NameKind) := [(Str.ofString "script", .local), (Str.ofString "row", .local), (Str.ofString "cell", .local), (Str.ofString "number", .local), (Str.ofString "turn", .local), (Str.ofString "range", .globalImplicit)]
theorem ok_law_row (g : Good w h0 mb) : FnOk (cx w h0 mb) 383 (fd w.params 383) ["script"] (bd w.params 383) := fnOk_of (by kernel_rfl) (vs1 fun _ => by kernel_rfl)
theorem sb_law_row (g : Good w h0 mb) : SimSs (cx w h0 mb) 0 nm_law_row (bd w.params 383) P.law_row_b :=
  .cons (.asg (.list .nil rfl) (.inl rfl) (fun _ _ => rfl)) (.cons (.forIn (.upto (.local rfl rfl) .int (fun _ _ => rfl)) (.one (.inl rfl)) (.cons (.asg (.ife (.cmp g.ok (.local rfl rfl) .int rfl) (.local rfl rfl) (.bin .int (.local rfl rfl))) (.inl rfl) (fun _ _ => rfl)) (.cons (.expr (.lmeth (.local rfl rfl) (.cons (.bin (.local rfl rfl) .int) rfl .nil) PySem.F.slot_list_append PySem.F.type_list_append lm_append (fun _ => rfl) rfl rfl) (fun _ => rfl)) (.cons (.asg (.bin (.local rfl rfl) .int) (.inl rfl) (fun _ _ => rfl)) (.cons (.forR1 g.ok .int (gb_range g) (.one (.inl rfl)) (.cons (.iff (.cmp g.ok (.local rfl rfl) .int rfl) (.cons (.expr (.lmeth (.local rfl rfl) (.cons (.bin (.local rfl rfl) .int) rfl .nil) PySem.F.slot_list_append PySem.F.type_list_append lm_append (fun _ => rfl) rfl rfl) (fun _ => rfl)) (.cons (.asg (.bin (.local rfl rfl) .int) (.inl rfl) (fun _ _ => rfl)) .nil)) .nil) .nil) rfl rfl) .nil)))) (fun _ _ => rfl)) (.cons (.asg (.upto (.local rfl rfl) .int (fun _ _ => rfl)) (.inl rfl) (fun _ _ => rfl)) (.cons (.expr (.lmeth (.local rfl rfl) .nil PySem.F.slot_list_reverse PySem.F.type_list_reverse lm_rev (fun _ => rfl) rfl rfl) (fun _ => rfl)) (.cons (.ret (.local rfl rfl)) .nil))))
theorem sim_law_row (g : Good w h0 mb) : SimFn (cx w h0 mb) 1 383 P.law_row := SimFn.of g.ok (ok_law_row g) ((by kernel_rfl : (fd w.params 383).scope.names = nm_law_row) ▸ sb_law_row g)
noncomputable def nm_law_spoiled : List (Str × NameKind) := [(Str.ofString "row", .local), (Str.ofString "block", .cell), (Str.ofString "many", .local), (Str.ofString "place", .local), (Str.ofString "places", .local), (Str.ofString "ins", .local), (Str.ofString "label", .local), (Str.ofString "draw", .local), (Str.ofString "pairs", .local), (Str.ofString "at", .local), (Str.ofString "parts", .local), (Str.ofString "range", .globalImplicit), (Str.ofString "len", .globalImplicit), (Str.ofString "_law_next", .globalImplicit), (Str.ofString "list", .globalImplicit), (Str.ofString "tuple", .globalImplicit)]
theorem ok_law_spoiled (g : Good w h0 mb) : FnOk (cx w h0 mb) 423 (fd w.params 423) ["row", "block", "many"] (bd w.params 423) := fnOk_of (by kernel_rfl) (vs3 fun _ _ _ => by kernel_rfl)
theorem sb_law_spoiled (g : Good w h0 mb) : SimSs (cx w h0 mb) 1 nm_law_spoiled (bd w.params 423) P.law_spoiled_b :=
  .cons (.asgCompR g.ok rfl ⟨rfl, by kernel_rfl, by kernel_rfl, by kernel_rfl, by decide +kernel⟩ (.len g.ok (.cell rfl rfl) (gb_len g) rfl rfl) rfl rfl (gb_range g) (.one rfl) (.one (.and (.cons (.cmp g.ok (.item g.ok (.item g.ok (.cell rfl rfl) (.local rfl rfl)) .int) .str rfl) (.cons (.cmp g.ok (.local rfl rfl) (.lmeth (.cell rfl rfl) (.cons (.tup (.cons .str rfl (.cons .int rfl .nil)) rfl) rfl .nil) PySem.F.slot_list_index PySem.F.type_list_index lm_index (fun _ => rfl) rfl rfl) rfl) .nil)))) (.local rfl rfl) (free1 (by kernel_rfl) (by kernel_rfl)) (swaps_yes (by kernel_rfl) rfl (by kernel_rfl))) (.cons (.asg (.item g.ok (.local rfl rfl) (.bin (.call g.ok (.cons (.local rfl rfl) rfl .nil) (sim_law_next g) (.inr rfl) rfl rfl rfl rfl) (.len g.ok (.local rfl rfl) (gb_len g) rfl rfl))) (.inl rfl) (fun _ _ => rfl)) (.cons (.asg (.item g.ok (.cell rfl rfl) (.local rfl rfl)) (.inl rfl) (fun _ _ => rfl)) (.cons (.asg (.bin (.bin (.call g.ok (.cons (.local rfl rfl) rfl .nil) (sim_law_next g) (.inr rfl) rfl rfl rfl rfl) (.bin (.local rfl rfl) .int)) .int) (.inl rfl) (fun _ _ => rfl)) (.cons (.asg (.bin (.call g.ok (.cons (.local rfl rfl) rfl .nil) (sim_law_next g) (.inr rfl) rfl rfl rfl rfl) .int) (.inl rfl) (fun _ _ => rfl)) (.cons (.iff (.cmp g.ok (.item g.ok (.local rfl rfl) .int) (.tup (.cons .str rfl (.cons .str rfl .nil)) rfl) rfl) (.cons (.iff (.cmp g.ok (.local rfl rfl) .int rfl) (.cons (.ret (.bin (.bin (.upto (.cell rfl rfl) (.local rfl rfl) (fun _ _ => rfl)) (.list (.cons (.tup (.cons (.item g.ok (.local rfl rfl) .int) rfl (.cons (.item g.ok (.local rfl rfl) .int) rfl (.cons (.local rfl rfl) rfl .nil))) rfl) rfl .nil) rfl)) (.from_ (.cell rfl rfl) (.bin (.local rfl rfl) .int) (fun _ _ => rfl)))) .nil) .nil) (.cons (.asg (.mklist g.ok (.item g.ok (.local rfl rfl) .int) rfl rfl (gb_list g)) (.inl rfl) (fun _ _ => rfl)) (.cons (.asg (.bin (.call g.ok (.cons (.local rfl rfl) rfl .nil) (sim_law_next g) (.inr rfl) rfl rfl rfl rfl) (.len g.ok (.local rfl rfl) (gb_len g) rfl rfl)) (.inl rfl) (fun _ _ => rfl)) (.cons (.iff (.cmp g.ok (.local rfl rfl) .int rfl) (.cons (.asgItem g.ok (.tup (.cons (.item g.ok (.item g.ok (.local rfl rfl) (.local rfl rfl)) .int) rfl (.cons (.local rfl rfl) rfl .nil)) rfl) (.local rfl rfl) (.local rfl rfl) (fun _ => rfl)) .nil) (.cons (.expr (.lmeth (.local rfl rfl) (.cons (.local rfl rfl) rfl .nil) PySem.F.slot_list_pop PySem.F.type_list_pop lm_pop (fun _ => rfl) rfl rfl) (fun _ => rfl)) .nil)) (.cons (.ret (.bin (.bin (.upto (.cell rfl rfl) (.local rfl rfl) (fun _ _ => rfl)) (.list (.cons (.tup (.cons (.item g.ok (.local rfl rfl) .int) rfl (.cons (.mktup g.ok (.local rfl rfl) rfl rfl (gb_tuple g)) rfl (.cons (.item g.ok (.local rfl rfl) .int) rfl .nil))) rfl) rfl .nil) rfl)) (.from_ (.cell rfl rfl) (.bin (.local rfl rfl) .int) (fun _ _ => rfl)))) .nil))))) .nil) (.cons (.iff (.cmp g.ok (.item g.ok (.local rfl rfl) .int) .str rfl) (.cons (.asg (.mklist g.ok (.local rfl rfl) rfl rfl (gb_list g)) (.inl rfl) (fun _ _ => rfl)) (.cons (.asgItem g.ok (.local rfl rfl) (.local rfl rfl) (.bin .int (.bin (.local rfl rfl) .int)) (fun _ => rfl)) (.cons (.ret (.bin (.bin (.upto (.cell rfl rfl) (.local rfl rfl) (fun _ _ => rfl)) (.list (.cons (.mktup g.ok (.local rfl rfl) rfl rfl (gb_tuple g)) rfl .nil) rfl)) (.from_ (.cell rfl rfl) (.bin (.local rfl rfl) .int) (fun _ _ => rfl)))) .nil))) .nil) (.cons (.iff (.and (.cons (.cmp g.ok (.item g.ok (.local rfl rfl) .int) (.tup (.cons .str rfl (.cons .str rfl .nil)) rfl) rfl) (.cons (.cmp g.ok (.local rfl rfl) .int rfl) .nil))) (.cons (.ret (.bin (.bin (.upto (.cell rfl rfl) (.local rfl rfl) (fun _ _ => rfl)) (.list (.cons (.local rfl rfl) rfl .nil) rfl)) (.from_ (.cell rfl rfl) (.local rfl rfl) (fun _ _ => rfl)))) .nil) .nil) (.cons (.ret (.bin (.bin (.upto (.cell rfl rfl) (.local rfl rfl) (fun _ _ => rfl)) (.list (.cons (.bin (.tup (.cons (.item g.ok (.local rfl rfl) .int) rfl (.cons (.local rfl rfl) rfl .nil)) rfl) (.tfrom (n := 2) (.local rfl rfl) (by decide) (fun _ _ => rfl))) rfl .nil) rfl)) (.from_ (.cell rfl rfl) (.bin (.local rfl rfl) .int) (fun _ _ => rfl)))) .nil))))))))
theorem sim_law_spoiled (g : Good w h0 mb) : SimFn (cx w h0 mb) 2 423 P.law_spoiled := SimFn.of g.ok (ok_law_spoiled g) ((by kernel_rfl : (fd w.params 423).scope.names = nm_law_spoiled) ▸ sb_law_spoiled g)
noncomputable def nm_matching : List (Str × NameKind) := [(Str.ofString "key", .local), (Str.ofString "cell_key", .local), (Str.ofString "VAR_KEY", .globalImplicit)]
theorem ok_matching (g : Good w h0 mb) : FnOk (cx w h0 mb) 182 (fd w.params 182) ["key", "cell_key"] (bd w.params 182) := fnOk_of (by kernel_rfl) (vs2 fun _ _ => by kernel_rfl)
theorem sb_matching (g : Good w h0 mb) : SimSs (cx w h0 mb) 0 nm_matching (bd w.params 182) P.matching_b :=
  .cons (.iff (.or (.cons (.cmp g.ok (.local rfl rfl) (.glob g.ok (gv_VAR_KEY g) rfl rfl) rfl) (.cons (.cmp g.ok (.local rfl rfl) (.glob g.ok (gv_VAR_KEY g) rfl rfl) rfl) .nil))) (.cons (.ret .bool) .nil) .nil) (.cons (.ret (.cmp g.ok (.local rfl rfl) (.local rfl rfl) rfl)) .nil)
theorem sim_matching (g : Good w h0 mb) : SimFn (cx w h0 mb) 1 182 P.matching := SimFn.of g.ok (ok_matching g) ((by kernel_rfl : (fd w.params 182).scope.names = nm_matching) ▸ sb_matching g)
noncomputable def nm_candidates : List (Str × NameKind) := [(Str.ofString "codes", .local), (Str.ofString "cell_key", .local), (Str.ofString "places", .local), (Str.ofString "place", .local), (Str.ofString "range", .globalImplicit), (Str.ofString "len", .globalImplicit), (Str.ofString "matching", .globalImplicit)]
theorem ok_candidates (g : Good w h0 mb) : FnOk (cx w h0 mb) 189 (fd w.params 189) ["codes", "cell_key"] (bd w.params 189) := fnOk_of (by kernel_rfl) (vs2 fun _ _ => by kernel_rfl)
theorem sb_candidates (g : Good w h0 mb) : SimSs (cx w h0 mb) 1 nm_candidates (bd w.params 189) P.candidates_b :=
  .cons (.asg (.list .nil rfl) (.inl rfl) (fun _ _ => rfl)) (.cons (.forR1 g.ok (.len g.ok (.local rfl rfl) (gb_len g) rfl rfl) (gb_range g) (.one (.inl rfl)) (.cons (.iff (.of (.call g.ok (.cons (.attr g.ok (cls_ClauseCode g) (.item g.ok (.local rfl rfl) (.local rfl rfl)) rfl (fun _ => rfl)) rfl (.cons (.local rfl rfl) rfl .nil)) (sim_matching g) (.inr rfl) rfl rfl rfl rfl) (fun _ _ => rfl)) (.cons (.expr (.lmeth (.local rfl rfl) (.cons (.local rfl rfl) rfl .nil) PySem.F.slot_list_append PySem.F.type_list_append lm_append (fun _ => rfl) rfl rfl) (fun _ => rfl)) .nil) .nil) .nil) rfl rfl) (.cons (.ret (.local rfl rfl)) .nil))
theorem sim_candidates (g : Good w h0 mb) : SimFn (cx w h0 mb) 2 189 P.candidates := SimFn.of g.ok (ok_candidates g) ((by kernel_rfl : (fd w.params 189).scope.names = nm_candidates) ▸ sb_candidates g)
noncomputable def nm_BlockBuilder_init : List (Str × NameKind) := [(Str.ofString "self", .local), (Str.ofString "arity", .local), (Str.ofString "codes", .local), (Str.ofString "len", .globalImplicit)]
theorem ok_BlockBuilder_init (g : Good w h0 mb) : FnOk (cx w h0 mb) 210 (fd w.params 210) ["self", "arity", "codes"] (bd w.params 210) := fnOk_of (by kernel_rfl) (vs3 fun _ _ _ => by kernel_rfl)
theorem sb_BlockBuilder_init (g : Good w h0 mb) : SimSs (cx w h0 mb) 0 nm_BlockBuilder_init (bd w.params 210) P.BlockBuilder_init_b :=
  .cons (.asgAttr g.ok (cls_BlockBuilder g) (.local rfl rfl) (.local rfl rfl) rfl (fun _ => rfl)) (.cons (.asgAttr g.ok (cls_BlockBuilder g) (.local rfl rfl) (.local rfl rfl) rfl (fun _ => rfl)) (.cons (.asgAttr g.ok (cls_BlockBuilder g) (.list .nil rfl) (.local rfl rfl) rfl (fun _ => rfl)) (.cons (.asgAttr g.ok (cls_BlockBuilder g) (.list .nil rfl) (.local rfl rfl) rfl (fun _ => rfl)) (.cons (.asgAttr g.ok (cls_BlockBuilder g) .dict0 (.local rfl rfl) rfl (fun _ => rfl)) (.cons (.asgAttr g.ok (cls_BlockBuilder g) (.len g.ok (.local rfl rfl) (gb_len g) rfl rfl) (.local rfl rfl) rfl (fun _ => rfl)) .nil)))))
theorem sim_BlockBuilder_init (g : Good w h0 mb) : SimFn (cx w h0 mb) 1 210 P.BlockBuilder_init := SimFn.of g.ok (ok_BlockBuilder_init g) ((by kernel_rfl : (fd w.params 210).scope.names = nm_BlockBuilder_init) ▸ sb_BlockBuilder_init g)
noncomputable def nm_BlockBuilder_chain_rows : List (Str × NameKind) := [(Str.ofString "self", .local), (Str.ofString "labels", .local), (Str.ofString "rows", .local), (Str.ofString "last", .local), (Str.ofString "place", .local), (Str.ofString "len", .globalImplicit), (Str.ofString "range", .globalImplicit)]
theorem ok_BlockBuilder_chain_rows (g : Good w h0 mb) : FnOk (cx w h0 mb) 224 (fd w.params 224) ["self", "labels"] (bd w.params 224) := fnOk_of (by kernel_rfl) (vs2 fun _ _ => by kernel_rfl)
theorem sb_BlockBuilder_chain_rows (g : Good w h0 mb) : SimSs (cx w h0 mb) 0 nm_BlockBuilder_chain_rows (bd w.params 224) P.BlockBuilder_chain_rows_b :=
  .cons (.asg (.list (.cons (.tup (.cons .str rfl (.cons (.item g.ok (.local rfl rfl) .int) rfl (.cons (.attr g.ok (cls_BlockBuilder g) (.local rfl rfl) rfl (fun _ => rfl)) rfl .nil))) rfl) rfl .nil) rfl) (.inl rfl) (fun _ _ => rfl)) (.cons (.asg (.bin (.len g.ok (.local rfl rfl) (gb_len g) rfl rfl) .int) (.inl rfl) (fun _ _ => rfl)) (.cons (.forR2 g.ok .int (.local rfl rfl) rfl rfl rfl (gb_range g) (.one (.inl rfl)) (.cons (.expr (.lmeth (.local rfl rfl) (.cons (.tup (.cons .str rfl (.cons (.item g.ok (.local rfl rfl) (.local rfl rfl)) rfl .nil)) rfl) rfl .nil) PySem.F.slot_list_append PySem.F.type_list_append lm_append (fun _ => rfl) rfl rfl) (fun _ => rfl)) .nil)) (.cons (.expr (.lmeth (.local rfl rfl) (.cons (.tup (.cons .str rfl (.cons (.item g.ok (.local rfl rfl) (.local rfl rfl)) rfl .nil)) rfl) rfl .nil) PySem.F.slot_list_append PySem.F.type_list_append lm_append (fun _ => rfl) rfl rfl) (fun _ => rfl)) (.cons (.ret (.local rfl rfl)) .nil))))
theorem sim_BlockBuilder_chain_rows (g : Good w h0 mb) : SimFn (cx w h0 mb) 1 224 P.BlockBuilder_chain_rows := SimFn.of g.ok (ok_BlockBuilder_chain_rows g) ((by kernel_rfl : (fd w.params 224).scope.names = nm_BlockBuilder_chain_rows) ▸ sb_BlockBuilder_chain_rows g)
noncomputable def nm_BlockBuilder_finish : List (Str × NameKind) := [(Str.ofString "self", .local), (Str.ofString "pair", .local), (Str.ofString "row", .local), (Str.ofString "place", .local), (Str.ofString "range", .globalImplicit), (Str.ofString "len", .globalImplicit)]
theorem ok_BlockBuilder_finish (g : Good w h0 mb) : FnOk (cx w h0 mb) 266 (fd w.params 266) ["self"] (bd w.params 266) := fnOk_of (by kernel_rfl) (vs1 fun _ => by kernel_rfl)
theorem sb_BlockBuilder_finish (g : Good w h0 mb) : SimSs (cx w h0 mb) 1 nm_BlockBuilder_finish (bd w.params 266) P.BlockBuilder_finish_b :=
  .cons (.forIn (.attr g.ok (cls_BlockBuilder g) (.local rfl rfl) rfl (fun _ => rfl)) (.one (.inl rfl)) (.cons (.expr (.lmeth (.attr g.ok (cls_BlockBuilder g) (.local rfl rfl) rfl (fun _ => rfl)) (.cons (.tup (.cons .str rfl (.cons (.item g.ok (.local rfl rfl) .int) rfl .nil)) rfl) rfl .nil) PySem.F.slot_list_append PySem.F.type_list_append lm_append (fun _ => rfl) rfl rfl) (fun _ => rfl)) (.cons (.forIn (.meth g.ok (.local rfl rfl) (.cons (.item g.ok (.local rfl rfl) .int) rfl .nil) (cls_BlockBuilder g) (sim_BlockBuilder_chain_rows g) rfl rfl rfl rfl (fun _ => rfl) rfl rfl) (.one (.inl rfl)) (.cons (.expr (.lmeth (.attr g.ok (cls_BlockBuilder g) (.local rfl rfl) rfl (fun _ => rfl)) (.cons (.local rfl rfl) rfl .nil) PySem.F.slot_list_append PySem.F.type_list_append lm_append (fun _ => rfl) rfl rfl) (fun _ => rfl)) .nil) (fun _ _ => rfl)) .nil)) (fun _ _ => rfl)) (.cons (.forR1 g.ok (.len g.ok (.attr g.ok (cls_BlockBuilder g) (.local rfl rfl) rfl (fun _ => rfl)) (gb_len g) rfl rfl) (gb_range g) (.one (.inl rfl)) (.cons (.expr (.lmeth (.attr g.ok (cls_BlockBuilder g) (.local rfl rfl) rfl (fun _ => rfl)) (.cons (.tup (.cons .str rfl (.cons (.local rfl rfl) rfl .nil)) rfl) rfl .nil) PySem.F.slot_list_append PySem.F.type_list_append lm_append (fun _ => rfl) rfl rfl) (fun _ => rfl)) (.cons (.forIn (.attr g.ok (cls_ClauseCode g) (.item g.ok (.attr g.ok (cls_BlockBuilder g) (.local rfl rfl) rfl (fun _ => rfl)) (.local rfl rfl)) rfl (fun _ => rfl)) (.one (.inl rfl)) (.cons (.expr (.lmeth (.attr g.ok (cls_BlockBuilder g) (.local rfl rfl) rfl (fun _ => rfl)) (.cons (.local rfl rfl) rfl .nil) PySem.F.slot_list_append PySem.F.type_list_append lm_append (fun _ => rfl) rfl rfl) (fun _ => rfl)) .nil) (fun _ _ => rfl)) .nil)) rfl rfl) (.cons (.ret (.attr g.ok (cls_BlockBuilder g) (.local rfl rfl) rfl (fun _ => rfl))) .nil))
theorem sim_BlockBuilder_finish (g : Good w h0 mb) : SimFn (cx w h0 mb) 2 266 P.BlockBuilder_finish := SimFn.of g.ok (ok_BlockBuilder_finish g) ((by kernel_rfl : (fd w.params 266).scope.names = nm_BlockBuilder_finish) ▸ sb_BlockBuilder_finish g)
noncomputable def nm_Symbols_arity : List (Str × NameKind) := [(Str.ofString "self", .local), (Str.ofString "functor", .local)]
theorem ok_Symbols_arity (g : Good w h0 mb) : FnOk (cx w h0 mb) 124 (fd w.params 124) ["self", "functor"] (bd w.params 124) := fnOk_of (by kernel_rfl) (vs2 fun _ _ => by kernel_rfl)
theorem sb_Symbols_arity (g : Good w h0 mb) : SimSs (cx w h0 mb) 0 nm_Symbols_arity (bd w.params 124) P.Symbols_arity_b :=
  .cons (.ret (.item g.ok (.item g.ok (.attr g.ok (cls_Symbols g) (.local rfl rfl) rfl (fun _ => rfl)) (.local rfl rfl)) .int)) .nil
theorem sim_Symbols_arity (g : Good w h0 mb) : SimFn (cx w h0 mb) 1 124 P.Symbols_arity := SimFn.of g.ok (ok_Symbols_arity g) ((by kernel_rfl : (fd w.params 124).scope.names = nm_Symbols_arity) ▸ sb_Symbols_arity g)
theorem sim_small_block (_ : Good w h0 mb) : SimFn (cx w h0 mb) 1 280 P.small_block := SimFn.stub
noncomputable def nm_chain_block : List (Str × NameKind) := [(Str.ofString "symbols", .local), (Str.ofString "functor", .local), (Str.ofString "codes", .local), (Str.ofString "builder", .local), (Str.ofString "row", .local), (Str.ofString "len", .globalImplicit), (Str.ofString "small_block", .globalImplicit), (Str.ofString "BlockBuilder", .globalImplicit), (Str.ofString "list", .globalImplicit), (Str.ofString "range", .globalImplicit)]
theorem ok_chain_block (g : Good w h0 mb) : FnOk (cx w h0 mb) 287 (fd w.params 287) ["symbols", "functor", "codes"] (bd w.params 287) := fnOk_of (by kernel_rfl) (vs3 fun _ _ _ => by kernel_rfl)
theorem sb_chain_block (g : Good w h0 mb) : SimSs (cx w h0 mb) 2 nm_chain_block (bd w.params 287) P.chain_block_b :=
  .cons (.iff (.cmp g.ok (.len g.ok (.local rfl rfl) (gb_len g) rfl rfl) .int rfl) (.cons (.ret (.call g.ok (.cons (.local rfl rfl) rfl .nil) (sim_small_block g) (.inr rfl) rfl rfl rfl rfl)) .nil) .nil) (.cons (.asg (.new g.ok (.cons (.meth g.ok (.local rfl rfl) (.cons (.local rfl rfl) rfl .nil) (cls_Symbols g) (sim_Symbols_arity g) rfl rfl rfl rfl (fun _ => rfl) rfl rfl) rfl (.cons (.local rfl rfl) rfl .nil)) rfl rfl (gb_BlockBuilder g) (kp_BlockBuilder g) (mk_BlockBuilder g) (in_BlockBuilder g) (ty_BlockBuilder_init g) (sim_BlockBuilder_init g) (by decide)) (.inl rfl) (fun _ _ => rfl)) (.cons (.forIn (.meth g.ok (.local rfl rfl) (.cons (.listRange g.ok (.len g.ok (.local rfl rfl) (gb_len g) rfl rfl) rfl rfl (gb_list g) rfl (gb_range g)) rfl .nil) (cls_BlockBuilder g) (sim_BlockBuilder_chain_rows g) rfl rfl rfl rfl (fun _ => rfl) rfl rfl) (.one (.inl rfl)) (.cons (.expr (.lmeth (.attr g.ok (cls_BlockBuilder g) (.local rfl rfl) rfl (fun _ => rfl)) (.cons (.local rfl rfl) rfl .nil) PySem.F.slot_list_append PySem.F.type_list_append lm_append (fun _ => rfl) rfl rfl) (fun _ => rfl)) .nil) (fun _ _ => rfl)) (.cons (.ret (.meth g.ok (.local rfl rfl) .nil (cls_BlockBuilder g) (sim_BlockBuilder_finish g) rfl rfl rfl rfl (fun _ => rfl) rfl rfl)) .nil)))
theorem sim_chain_block (g : Good w h0 mb) : SimFn (cx w h0 mb) 3 287 P.chain_block := SimFn.of g.ok (ok_chain_block g) ((by kernel_rfl : (fd w.params 287).scope.names = nm_chain_block) ▸ sb_chain_block g)
noncomputable def nm_const_key : List (Str × NameKind) := [(Str.ofString "cell", .local)]
theorem ok_const_key (g : Good w h0 mb) : FnOk (cx w h0 mb) 168 (fd w.params 168) ["cell"] (bd w.params 168) := fnOk_of (by kernel_rfl) (vs1 fun _ => by kernel_rfl)
theorem sb_const_key (g : Good w h0 mb) : SimSs (cx w h0 mb) 0 nm_const_key (bd w.params 168) P.const_key_b :=
  .cons (.ret (.tup (.cons .str rfl (.cons (.local rfl rfl) rfl .nil)) rfl)) .nil
theorem sim_const_key (g : Good w h0 mb) : SimFn (cx w h0 mb) 1 168 P.const_key := SimFn.of g.ok (ok_const_key g) ((by kernel_rfl : (fd w.params 168).scope.names = nm_const_key) ▸ sb_const_key g)
noncomputable def nm_struct_key : List (Str × NameKind) := [(Str.ofString "functor", .local)]
theorem ok_struct_key (g : Good w h0 mb) : FnOk (cx w h0 mb) 175 (fd w.params 175) ["functor"] (bd w.params 175) := fnOk_of (by kernel_rfl) (vs1 fun _ => by kernel_rfl)
theorem sb_struct_key (g : Good w h0 mb) : SimSs (cx w h0 mb) 0 nm_struct_key (bd w.params 175) P.struct_key_b :=
  .cons (.ret (.tup (.cons .str rfl (.cons (.local rfl rfl) rfl .nil)) rfl)) .nil
theorem sim_struct_key (g : Good w h0 mb) : SimFn (cx w h0 mb) 1 175 P.struct_key := SimFn.of g.ok (ok_struct_key g) ((by kernel_rfl : (fd w.params 175).scope.names = nm_struct_key) ▸ sb_struct_key g)
noncomputable def nm_sample_keys : List (Str × NameKind) := [(Str.ofString "codes", .local), (Str.ofString "keys", .local), (Str.ofString "greatest", .local), (Str.ofString "functor", .local), (Str.ofString "code", .local), (Str.ofString "key", .local), (Str.ofString "VAR_KEY", .globalImplicit), (Str.ofString "LIST_KEY", .globalImplicit), (Str.ofString "INT", .globalImplicit), (Str.ofString "const_key", .globalImplicit), (Str.ofString "struct_key", .globalImplicit)]
theorem ok_sample_keys (g : Good w h0 mb) : FnOk (cx w h0 mb) 343 (fd w.params 343) ["codes"] (bd w.params 343) := fnOk_of (by kernel_rfl) (vs1 fun _ => by kernel_rfl)
theorem sb_sample_keys (g : Good w h0 mb) : SimSs (cx w h0 mb) 1 nm_sample_keys (bd w.params 343) P.sample_keys_b :=
  .cons (.asg (.list (.cons (.glob g.ok (gv_VAR_KEY g) rfl rfl) rfl (.cons (.glob g.ok (gv_LIST_KEY g) rfl rfl) rfl .nil)) rfl) (.inl rfl) (fun _ _ => rfl)) (.cons (.asg .int (.inl rfl) (fun _ _ => rfl)) (.cons (.asg .int (.inl rfl) (fun _ _ => rfl)) (.cons (.forIn (.local rfl rfl) (.one (.inl rfl)) (.cons (.asg (.attr g.ok (cls_ClauseCode g) (.local rfl rfl) rfl (fun _ => rfl)) (.inl rfl) (fun _ _ => rfl)) (.cons (.iff (.cmp g.ok (.local rfl rfl) (.local rfl rfl) rfl) (.cons (.expr (.lmeth (.local rfl rfl) (.cons (.local rfl rfl) rfl .nil) PySem.F.slot_list_append PySem.F.type_list_append lm_append (fun _ => rfl) rfl rfl) (fun _ => rfl)) .nil) .nil) (.cons (.iff (.and (.cons (.cmp g.ok (.item g.ok (.local rfl rfl) .int) .str rfl) (.cons (.cmp g.ok (.item g.ok (.item g.ok (.local rfl rfl) .int) .int) (.glob g.ok (gv_INT g) rfl rfl) rfl) (.cons (.cmp g.ok (.item g.ok (.item g.ok (.local rfl rfl) .int) .int) (.local rfl rfl) rfl) .nil)))) (.cons (.asg (.item g.ok (.item g.ok (.local rfl rfl) .int) .int) (.inl rfl) (fun _ _ => rfl)) .nil) .nil) (.cons (.iff (.and (.cons (.cmp g.ok (.item g.ok (.local rfl rfl) .int) .str rfl) (.cons (.cmp g.ok (.item g.ok (.local rfl rfl) .int) (.local rfl rfl) rfl) .nil))) (.cons (.asg (.item g.ok (.local rfl rfl) .int) (.inl rfl) (fun _ _ => rfl)) .nil) .nil) .nil)))) (fun _ _ => rfl)) (.cons (.expr (.lmeth (.local rfl rfl) (.cons (.call g.ok (.cons (.tup (.cons (.glob g.ok (gv_INT g) rfl rfl) rfl (.cons (.bin (.local rfl rfl) .int) rfl .nil)) rfl) rfl .nil) (sim_const_key g) (.inr rfl) rfl rfl rfl rfl) rfl .nil) PySem.F.slot_list_append PySem.F.type_list_append lm_append (fun _ => rfl) rfl rfl) (fun _ => rfl)) (.cons (.expr (.lmeth (.local rfl rfl) (.cons (.call g.ok (.cons (.bin (.local rfl rfl) .int) rfl .nil) (sim_struct_key g) (.inr rfl) rfl rfl rfl rfl) rfl .nil) PySem.F.slot_list_append PySem.F.type_list_append lm_append (fun _ => rfl) rfl rfl) (fun _ => rfl)) (.cons (.ret (.local rfl rfl)) .nil))))))
theorem sim_sample_keys (g : Good w h0 mb) : SimFn (cx w h0 mb) 2 343 P.sample_keys := SimFn.of g.ok (ok_sample_keys g) ((by kernel_rfl : (fd w.params 343).scope.names = nm_sample_keys) ▸ sb_sample_keys g)
noncomputable def nm_label_places : List (Str × NameKind) := [(Str.ofString "block", .local), (Str.ofString "where", .local), (Str.ofString "place", .local), (Str.ofString "range", .globalImplicit), (Str.ofString "len", .globalImplicit)]
theorem ok_label_places (g : Good w h0 mb) : FnOk (cx w h0 mb) 315 (fd w.params 315) ["block"] (bd w.params 315) := fnOk_of (by kernel_rfl) (vs1 fun _ => by kernel_rfl)
theorem sb_label_places (g : Good w h0 mb) : SimSs (cx w h0 mb) 0 nm_label_places (bd w.params 315) P.label_places_b :=
  .cons (.asg .dict0 (.inl rfl) (fun _ _ => rfl)) (.cons (.forR1 g.ok (.len g.ok (.local rfl rfl) (gb_len g) rfl rfl) (gb_range g) (.one (.inl rfl)) (.cons (.iff (.cmp g.ok (.item g.ok (.item g.ok (.local rfl rfl) (.local rfl rfl)) .int) .str rfl) (.cons (.asgItem g.ok (.local rfl rfl) (.local rfl rfl) (.item g.ok (.item g.ok (.local rfl rfl) (.local rfl rfl)) .int) (fun _ => rfl)) .nil) .nil) .nil) rfl rfl) (.cons (.ret (.local rfl rfl)) .nil))
theorem sim_label_places (g : Good w h0 mb) : SimFn (cx w h0 mb) 1 315 P.label_places := SimFn.of g.ok (ok_label_places g) ((by kernel_rfl : (fd w.params 315).scope.names = nm_label_places) ▸ sb_label_places g)
noncomputable def nm_switch_target : List (Str × NameKind) := [(Str.ofString "ins", .local), (Str.ofString "key", .local), (Str.ofString "kind", .local)]
theorem ok_switch_target (g : Good w h0 mb) : FnOk (cx w h0 mb) 322 (fd w.params 322) ["ins", "key"] (bd w.params 322) := fnOk_of (by kernel_rfl) (vs2 fun _ _ => by kernel_rfl)
theorem sb_switch_target (g : Good w h0 mb) : SimSs (cx w h0 mb) 0 nm_switch_target (bd w.params 322) P.switch_target_b :=
  .cons (.asg (.item g.ok (.local rfl rfl) .int) (.inl rfl) (fun _ _ => rfl)) (.cons (.iff (.cmp g.ok (.local rfl rfl) .str rfl) (.cons (.ret (.item g.ok (.local rfl rfl) .int)) .nil) .nil) (.cons (.iff (.cmp g.ok (.local rfl rfl) .str rfl) (.cons (.ret (.item g.ok (.local rfl rfl) .int)) .nil) .nil) (.cons (.iff (.cmp g.ok (.local rfl rfl) .str rfl) (.cons (.ret (.item g.ok (.local rfl rfl) .int)) .nil) .nil) (.cons (.ret (.item g.ok (.local rfl rfl) .int)) .nil))))
theorem sim_switch_target (g : Good w h0 mb) : SimFn (cx w h0 mb) 1 322 P.switch_target := SimFn.of g.ok (ok_switch_target g) ((by kernel_rfl : (fd w.params 322).scope.names = nm_switch_target) ▸ sb_switch_target g)
noncomputable def nm_table_target : List (Str × NameKind) := [(Str.ofString "ins", .local), (Str.ofString "key", .local), (Str.ofString "pair", .local)]
theorem ok_table_target (g : Good w h0 mb) : FnOk (cx w h0 mb) 329 (fd w.params 329) ["ins", "key"] (bd w.params 329) := fnOk_of (by kernel_rfl) (vs2 fun _ _ => by kernel_rfl)
theorem sb_table_target (g : Good w h0 mb) : SimSs (cx w h0 mb) 0 nm_table_target (bd w.params 329) P.table_target_b :=
  .cons (.forIn (.item g.ok (.local rfl rfl) .int) (.one (.inl rfl)) (.cons (.iff (.cmp g.ok (.item g.ok (.local rfl rfl) .int) (.item g.ok (.local rfl rfl) .int) rfl) (.cons (.ret (.item g.ok (.local rfl rfl) .int)) .nil) .nil) .nil) (fun _ _ => rfl)) (.cons (.ret (.item g.ok (.local rfl rfl) .int)) .nil)
theorem sim_table_target (g : Good w h0 mb) : SimFn (cx w h0 mb) 1 329 P.table_target := SimFn.of g.ok (ok_table_target g) ((by kernel_rfl : (fd w.params 329).scope.names = nm_table_target) ▸ sb_table_target g)
noncomputable def nm_tried_clauses : List (Str × NameKind) := [(Str.ofString "block", .local), (Str.ofString "count", .local), (Str.ofString "key", .local), (Str.ofString "where", .local), (Str.ofString "found", .local), (Str.ofString "pending", .local), (Str.ofString "place", .local), (Str.ofString "ins", .local), (Str.ofString "name", .local), (Str.ofString "target", .local), (Str.ofString "label_places", .globalImplicit), (Str.ofString "len", .globalImplicit), (Str.ofString "FAIL_LABEL", .globalImplicit), (Str.ofString "switch_target", .globalImplicit), (Str.ofString "table_target", .globalImplicit), (Str.ofString "LinkFault", .globalImplicit)]
theorem ok_tried_clauses (g : Good w h0 mb) : FnOk (cx w h0 mb) 336 (fd w.params 336) ["block", "count", "key"] (bd w.params 336) := fnOk_of (by kernel_rfl) (vs3 fun _ _ _ => by kernel_rfl)
theorem sb_tried_clauses (g : Good w h0 mb) : SimSs (cx w h0 mb) 1 nm_tried_clauses (bd w.params 336) P.tried_clauses_b :=
  .cons (.iff (.cmp g.ok (.local rfl rfl) .int rfl) (.cons (.ret (.list .nil rfl)) .nil) .nil) (.cons (.iff (.cmp g.ok (.local rfl rfl) .int rfl) (.cons (.ret (.list (.cons .int rfl .nil) rfl)) .nil) .nil) (.cons (.asg (.call g.ok (.cons (.local rfl rfl) rfl .nil) (sim_label_places g) (.inr rfl) rfl rfl rfl rfl) (.inl rfl) (fun _ _ => rfl)) (.cons (.asg (.list .nil rfl) (.inl rfl) (fun _ _ => rfl)) (.cons (.asg (.list (.cons .int rfl .nil) rfl) (.inl rfl) (fun _ _ => rfl)) (.cons (.whl (.cmp g.ok (.len g.ok (.local rfl rfl) (gb_len g) rfl rfl) .int rfl) (.cons (.asg (.lmeth (.local rfl rfl) .nil PySem.F.slot_list_pop PySem.F.type_list_pop lm_pop (fun _ => rfl) rfl rfl) (.inl rfl) (fun _ _ => rfl)) (.cons (.asg (.item g.ok (.local rfl rfl) (.local rfl rfl)) (.inl rfl) (fun _ _ => rfl)) (.cons (.asg (.item g.ok (.local rfl rfl) .int) (.inl rfl) (fun _ _ => rfl)) (.cons (.asg (.glob g.ok (gv_FAIL_LABEL g) rfl rfl) (.inl rfl) (fun _ _ => rfl)) (.cons (.iff (.cmp g.ok (.local rfl rfl) .str rfl) (.cons (.iff (.cmp g.ok (.item g.ok (.local rfl rfl) .int) (.local rfl rfl) rfl) (.cons (.expr (.lmeth (.local rfl rfl) (.cons (.item g.ok (.local rfl rfl) .int) rfl .nil) PySem.F.slot_list_append PySem.F.type_list_append lm_append (fun _ => rfl) rfl rfl) (fun _ => rfl)) .nil) (.cons (.expr (.lmeth (.local rfl rfl) (.cons (.bin (.local rfl rfl) .int) rfl .nil) PySem.F.slot_list_append PySem.F.type_list_append lm_append (fun _ => rfl) rfl rfl) (fun _ => rfl)) .nil)) .nil) (.cons (.iff (.or (.cons (.cmp g.ok (.local rfl rfl) .str rfl) (.cons (.cmp g.ok (.local rfl rfl) .str rfl) .nil))) (.cons (.expr (.lmeth (.local rfl rfl) (.cons (.bin (.local rfl rfl) .int) rfl .nil) PySem.F.slot_list_append PySem.F.type_list_append lm_append (fun _ => rfl) rfl rfl) (fun _ => rfl)) (.cons (.asg (.item g.ok (.local rfl rfl) .int) (.inl rfl) (fun _ _ => rfl)) .nil)) (.cons (.iff (.cmp g.ok (.local rfl rfl) .str rfl) (.cons (.asg (.item g.ok (.local rfl rfl) .int) (.inl rfl) (fun _ _ => rfl)) .nil) (.cons (.iff (.cmp g.ok (.local rfl rfl) .str rfl) (.cons (.asg (.call g.ok (.cons (.local rfl rfl) rfl (.cons (.local rfl rfl) rfl .nil)) (sim_switch_target g) (.inr rfl) rfl rfl rfl rfl) (.inl rfl) (fun _ _ => rfl)) .nil) (.cons (.iff (.or (.cons (.cmp g.ok (.local rfl rfl) .str rfl) (.cons (.cmp g.ok (.local rfl rfl) .str rfl) .nil))) (.cons (.asg (.call g.ok (.cons (.local rfl rfl) rfl (.cons (.local rfl rfl) rfl .nil)) (sim_table_target g) (.inr rfl) rfl rfl rfl rfl) (.inl rfl) (fun _ _ => rfl)) .nil) (.cons .fail .nil)) .nil)) .nil)) .nil)) .nil)) (.cons (.iff (.cmp g.ok (.local rfl rfl) (.glob g.ok (gv_FAIL_LABEL g) rfl rfl) rfl) (.cons (.expr (.lmeth (.local rfl rfl) (.cons (.item g.ok (.local rfl rfl) (.local rfl rfl)) rfl .nil) PySem.F.slot_list_append PySem.F.type_list_append lm_append (fun _ => rfl) rfl rfl) (fun _ => rfl)) .nil) .nil) .nil)))))) 1000) (.cons (.ret (.local rfl rfl)) .nil))))))
theorem sim_tried_clauses (g : Good w h0 mb) : SimFn (cx w h0 mb) 2 336 P.tried_clauses := SimFn.of g.ok (ok_tried_clauses g) ((by kernel_rfl : (fd w.params 336).scope.names = nm_tried_clauses) ▸ sb_tried_clauses g)
noncomputable def nm_check_index : List (Str × NameKind) := [(Str.ofString "codes", .cell), (Str.ofString "block", .local), (Str.ofString "exact", .local), (Str.ofString "key", .cell), (Str.ofString "tried", .local), (Str.ofString "sample_keys", .globalImplicit), (Str.ofString "tried_clauses", .globalImplicit), (Str.ofString "len", .globalImplicit), (Str.ofString "candidates", .globalImplicit)]
theorem ok_check_index (g : Good w h0 mb) : FnOk (cx w h0 mb) 348 (fd w.params 348) ["codes", "block", "exact"] (bd w.params 348) := fnOk_of (by kernel_rfl) (vs3 fun _ _ _ => by kernel_rfl)
theorem sb_check_index (g : Good w h0 mb) : SimSs (cx w h0 mb) 2 nm_check_index (bd w.params 348) P.check_index_b :=
  .cons (.forIn (.call g.ok (.cons (.cell rfl rfl) rfl .nil) (sim_sample_keys g) (.inr rfl) rfl rfl rfl rfl) (.one (.inr rfl)) (.cons (.asg (.call g.ok (.cons (.local rfl rfl) rfl (.cons (.len g.ok (.cell rfl rfl) (gb_len g) rfl rfl) rfl (.cons (.cell rfl rfl) rfl .nil))) (sim_tried_clauses g) (.inr rfl) rfl rfl rfl rfl) (.inl rfl) (fun _ _ => rfl)) (.cons (.iff (.not (.of (.local rfl rfl) (fun _ _ => rfl))) (.cons (.asgComp rfl ⟨rfl, by kernel_rfl, by kernel_rfl, by kernel_rfl, by decide +kernel⟩ (.local rfl rfl) (.one rfl) (.one (.of (.call g.ok (.cons (.attr g.ok (cls_ClauseCode g) (.item g.ok (.cell rfl rfl) (.local rfl rfl)) rfl (fun _ => rfl)) rfl (.cons (.cell rfl rfl) rfl .nil)) (sim_matching g) (.inr rfl) rfl rfl rfl rfl) (fun _ _ => rfl))) (.local rfl rfl) (free2 (by kernel_rfl) (by kernel_rfl) (by kernel_rfl) (by kernel_rfl)) (fun _ _ => rfl) (swaps_yes (by kernel_rfl) rfl (by kernel_rfl))) .nil) .nil) (.cons (.iff (.cmp g.ok (.local rfl rfl) (.call g.ok (.cons (.cell rfl rfl) rfl (.cons (.cell rfl rfl) rfl .nil)) (sim_candidates g) (.inr rfl) rfl rfl rfl rfl) rfl) (.cons (.ret .bool) .nil) .nil) .nil))) (fun _ _ => rfl)) (.cons (.ret .bool) .nil)
theorem sim_check_index (g : Good w h0 mb) : SimFn (cx w h0 mb) 3 348 P.check_index := SimFn.of g.ok (ok_check_index g) ((by kernel_rfl : (fd w.params 348).scope.names = nm_check_index) ▸ sb_check_index g)
noncomputable def nm_BlockBuilder_fresh_label : List (Str × NameKind) := [(Str.ofString "self", .local), (Str.ofString "label", .local)]
theorem ok_BlockBuilder_fresh_label (g : Good w h0 mb) : FnOk (cx w h0 mb) 217 (fd w.params 217) ["self"] (bd w.params 217) := fnOk_of (by kernel_rfl) (vs1 fun _ => by kernel_rfl)
theorem sb_BlockBuilder_fresh_label (g : Good w h0 mb) : SimSs (cx w h0 mb) 0 nm_BlockBuilder_fresh_label (bd w.params 217) P.BlockBuilder_fresh_label_b :=
  .cons (.asg (.attr g.ok (cls_BlockBuilder g) (.local rfl rfl) rfl (fun _ => rfl)) (.inl rfl) (fun _ _ => rfl)) (.cons (.asgAttr g.ok (cls_BlockBuilder g) (.bin (.local rfl rfl) .int) (.local rfl rfl) rfl (fun _ => rfl)) (.cons (.ret (.local rfl rfl)) .nil))
theorem sim_BlockBuilder_fresh_label (g : Good w h0 mb) : SimFn (cx w h0 mb) 1 217 P.BlockBuilder_fresh_label := SimFn.of g.ok (ok_BlockBuilder_fresh_label g) ((by kernel_rfl : (fd w.params 217).scope.names = nm_BlockBuilder_fresh_label) ▸ sb_BlockBuilder_fresh_label g)
noncomputable def nm_BlockBuilder_chain : List (Str × NameKind) := [(Str.ofString "self", .local), (Str.ofString "places", .local), (Str.ofString "wanted", .local), (Str.ofString "label", .local), (Str.ofString "len", .globalImplicit), (Str.ofString "FAIL_LABEL", .globalImplicit), (Str.ofString "tuple", .globalImplicit)]
theorem ok_BlockBuilder_chain (g : Good w h0 mb) : FnOk (cx w h0 mb) 231 (fd w.params 231) ["self", "places"] (bd w.params 231) := fnOk_of (by kernel_rfl) (vs2 fun _ _ => by kernel_rfl)
theorem sb_BlockBuilder_chain (g : Good w h0 mb) : SimSs (cx w h0 mb) 1 nm_BlockBuilder_chain (bd w.params 231) P.BlockBuilder_chain_b :=
  .cons (.iff (.cmp g.ok (.len g.ok (.local rfl rfl) (gb_len g) rfl rfl) .int rfl) (.cons (.ret (.glob g.ok (gv_FAIL_LABEL g) rfl rfl)) .nil) .nil) (.cons (.iff (.cmp g.ok (.len g.ok (.local rfl rfl) (gb_len g) rfl rfl) .int rfl) (.cons (.ret (.item g.ok (.local rfl rfl) .int)) .nil) .nil) (.cons (.asg (.mktup g.ok (.local rfl rfl) rfl rfl (gb_tuple g)) (.inl rfl) (fun _ _ => rfl)) (.cons (.iff (.cmp g.ok (.local rfl rfl) (.attr g.ok (cls_BlockBuilder g) (.local rfl rfl) rfl (fun _ => rfl)) rfl) (.cons (.ret (.item g.ok (.attr g.ok (cls_BlockBuilder g) (.local rfl rfl) rfl (fun _ => rfl)) (.local rfl rfl))) .nil) .nil) (.cons (.asg (.meth g.ok (.local rfl rfl) .nil (cls_BlockBuilder g) (sim_BlockBuilder_fresh_label g) rfl rfl rfl rfl (fun _ => rfl) rfl rfl) (.inl rfl) (fun _ _ => rfl)) (.cons (.asgItem g.ok (.local rfl rfl) (.attr g.ok (cls_BlockBuilder g) (.local rfl rfl) rfl (fun _ => rfl)) (.local rfl rfl) (fun _ => rfl)) (.cons (.expr (.lmeth (.attr g.ok (cls_BlockBuilder g) (.local rfl rfl) rfl (fun _ => rfl)) (.cons (.tup (.cons (.local rfl rfl) rfl (.cons (.local rfl rfl) rfl .nil)) rfl) rfl .nil) PySem.F.slot_list_append PySem.F.type_list_append lm_append (fun _ => rfl) rfl rfl) (fun _ => rfl)) (.cons (.ret (.local rfl rfl)) .nil)))))))
theorem sim_BlockBuilder_chain (g : Good w h0 mb) : SimFn (cx w h0 mb) 2 231 P.BlockBuilder_chain := SimFn.of g.ok (ok_BlockBuilder_chain g) ((by kernel_rfl : (fd w.params 231).scope.names = nm_BlockBuilder_chain) ▸ sb_BlockBuilder_chain g)
noncomputable def nm_BlockBuilder_matching_places : List (Str × NameKind) := [(Str.ofString "self", .local), (Str.ofString "places", .local), (Str.ofString "cell_key", .local), (Str.ofString "found", .local), (Str.ofString "place", .local), (Str.ofString "matching", .globalImplicit)]
theorem ok_BlockBuilder_matching_places (g : Good w h0 mb) : FnOk (cx w h0 mb) 238 (fd w.params 238) ["self", "places", "cell_key"] (bd w.params 238) := fnOk_of (by kernel_rfl) (vs3 fun _ _ _ => by kernel_rfl)
theorem sb_BlockBuilder_matching_places (g : Good w h0 mb) : SimSs (cx w h0 mb) 1 nm_BlockBuilder_matching_places (bd w.params 238) P.BlockBuilder_matching_places_b :=
  .cons (.asg (.list .nil rfl) (.inl rfl) (fun _ _ => rfl)) (.cons (.forIn (.local rfl rfl) (.one (.inl rfl)) (.cons (.iff (.of (.call g.ok (.cons (.attr g.ok (cls_ClauseCode g) (.item g.ok (.attr g.ok (cls_BlockBuilder g) (.local rfl rfl) rfl (fun _ => rfl)) (.local rfl rfl)) rfl (fun _ => rfl)) rfl (.cons (.local rfl rfl) rfl .nil)) (sim_matching g) (.inr rfl) rfl rfl rfl rfl) (fun _ _ => rfl)) (.cons (.expr (.lmeth (.local rfl rfl) (.cons (.local rfl rfl) rfl .nil) PySem.F.slot_list_append PySem.F.type_list_append lm_append (fun _ => rfl) rfl rfl) (fun _ => rfl)) .nil) .nil) .nil) (fun _ _ => rfl)) (.cons (.ret (.local rfl rfl)) .nil))
theorem sim_BlockBuilder_matching_places (g : Good w h0 mb) : SimFn (cx w h0 mb) 2 238 P.BlockBuilder_matching_places := SimFn.of g.ok (ok_BlockBuilder_matching_places g) ((by kernel_rfl : (fd w.params 238).scope.names = nm_BlockBuilder_matching_places) ▸ sb_BlockBuilder_matching_places g)
noncomputable def nm_BlockBuilder_table : List (Str × NameKind) := [(Str.ofString "self", .local), (Str.ofString "places", .local), (Str.ofString "kind", .local), (Str.ofString "pairs", .local), (Str.ofString "seen", .local), (Str.ofString "place", .local), (Str.ofString "key", .local), (Str.ofString "tuple", .globalImplicit)]
theorem ok_BlockBuilder_table (g : Good w h0 mb) : FnOk (cx w h0 mb) 252 (fd w.params 252) ["self", "places", "kind"] (bd w.params 252) := fnOk_of (by kernel_rfl) (vs3 fun _ _ _ => by kernel_rfl)
theorem sb_BlockBuilder_table (g : Good w h0 mb) : SimSs (cx w h0 mb) 2 nm_BlockBuilder_table (bd w.params 252) P.BlockBuilder_table_b :=
  .cons (.asg (.list .nil rfl) (.inl rfl) (fun _ _ => rfl)) (.cons (.asg .dict0 (.inl rfl) (fun _ _ => rfl)) (.cons (.forIn (.local rfl rfl) (.one (.inl rfl)) (.cons (.asg (.attr g.ok (cls_ClauseCode g) (.item g.ok (.attr g.ok (cls_BlockBuilder g) (.local rfl rfl) rfl (fun _ => rfl)) (.local rfl rfl)) rfl (fun _ => rfl)) (.inl rfl) (fun _ _ => rfl)) (.cons (.iff (.and (.cons (.cmp g.ok (.item g.ok (.local rfl rfl) .int) (.local rfl rfl) rfl) (.cons (.cmp g.ok (.item g.ok (.local rfl rfl) .int) (.local rfl rfl) rfl) .nil))) (.cons (.asgItem g.ok .bool (.local rfl rfl) (.item g.ok (.local rfl rfl) .int) (fun _ => rfl)) (.cons (.expr (.lmeth (.local rfl rfl) (.cons (.tup (.cons (.item g.ok (.local rfl rfl) .int) rfl (.cons (.meth g.ok (.local rfl rfl) (.cons (.meth g.ok (.local rfl rfl) (.cons (.local rfl rfl) rfl (.cons (.local rfl rfl) rfl .nil)) (cls_BlockBuilder g) (sim_BlockBuilder_matching_places g) rfl rfl rfl rfl (fun _ => rfl) rfl rfl) rfl .nil) (cls_BlockBuilder g) (sim_BlockBuilder_chain g) rfl rfl rfl rfl (fun _ => rfl) rfl rfl) rfl .nil)) rfl) rfl .nil) PySem.F.slot_list_append PySem.F.type_list_append lm_append (fun _ => rfl) rfl rfl) (fun _ => rfl)) .nil)) .nil) .nil)) (fun _ _ => rfl)) (.cons (.ret (.mktup g.ok (.local rfl rfl) rfl rfl (gb_tuple g))) .nil)))
theorem sim_BlockBuilder_table (g : Good w h0 mb) : SimFn (cx w h0 mb) 3 252 P.BlockBuilder_table := SimFn.of g.ok (ok_BlockBuilder_table g) ((by kernel_rfl : (fd w.params 252).scope.names = nm_BlockBuilder_table) ▸ sb_BlockBuilder_table g)
noncomputable def nm_BlockBuilder_variable_places : List (Str × NameKind) := [(Str.ofString "self", .local), (Str.ofString "places", .local), (Str.ofString "found", .local), (Str.ofString "place", .local), (Str.ofString "VAR_KEY", .globalImplicit)]
theorem ok_BlockBuilder_variable_places (g : Good w h0 mb) : FnOk (cx w h0 mb) 245 (fd w.params 245) ["self", "places"] (bd w.params 245) := fnOk_of (by kernel_rfl) (vs2 fun _ _ => by kernel_rfl)
theorem sb_BlockBuilder_variable_places (g : Good w h0 mb) : SimSs (cx w h0 mb) 0 nm_BlockBuilder_variable_places (bd w.params 245) P.BlockBuilder_variable_places_b :=
  .cons (.asg (.list .nil rfl) (.inl rfl) (fun _ _ => rfl)) (.cons (.forIn (.local rfl rfl) (.one (.inl rfl)) (.cons (.iff (.cmp g.ok (.attr g.ok (cls_ClauseCode g) (.item g.ok (.attr g.ok (cls_BlockBuilder g) (.local rfl rfl) rfl (fun _ => rfl)) (.local rfl rfl)) rfl (fun _ => rfl)) (.glob g.ok (gv_VAR_KEY g) rfl rfl) rfl) (.cons (.expr (.lmeth (.local rfl rfl) (.cons (.local rfl rfl) rfl .nil) PySem.F.slot_list_append PySem.F.type_list_append lm_append (fun _ => rfl) rfl rfl) (fun _ => rfl)) .nil) .nil) .nil) (fun _ _ => rfl)) (.cons (.ret (.local rfl rfl)) .nil))
theorem sim_BlockBuilder_variable_places (g : Good w h0 mb) : SimFn (cx w h0 mb) 1 245 P.BlockBuilder_variable_places := SimFn.of g.ok (ok_BlockBuilder_variable_places g) ((by kernel_rfl : (fd w.params 245).scope.names = nm_BlockBuilder_variable_places) ▸ sb_BlockBuilder_variable_places g)
noncomputable def nm_BlockBuilder_switch : List (Str × NameKind) := [(Str.ofString "self", .local), (Str.ofString "places", .local), (Str.ofString "default", .local), (Str.ofString "constants", .local), (Str.ofString "structures", .local), (Str.ofString "const_label", .local), (Str.ofString "struct_label", .local), (Str.ofString "list_label", .local), (Str.ofString "len", .globalImplicit), (Str.ofString "LIST_KEY", .globalImplicit)]
theorem ok_BlockBuilder_switch (g : Good w h0 mb) : FnOk (cx w h0 mb) 259 (fd w.params 259) ["self", "places"] (bd w.params 259) := fnOk_of (by kernel_rfl) (vs2 fun _ _ => by kernel_rfl)
theorem sb_BlockBuilder_switch (g : Good w h0 mb) : SimSs (cx w h0 mb) 3 nm_BlockBuilder_switch (bd w.params 259) P.BlockBuilder_switch_b :=
  .cons (.asg (.meth g.ok (.local rfl rfl) (.cons (.meth g.ok (.local rfl rfl) (.cons (.local rfl rfl) rfl .nil) (cls_BlockBuilder g) (sim_BlockBuilder_variable_places g) rfl rfl rfl rfl (fun _ => rfl) rfl rfl) rfl .nil) (cls_BlockBuilder g) (sim_BlockBuilder_chain g) rfl rfl rfl rfl (fun _ => rfl) rfl rfl) (.inl rfl) (fun _ _ => rfl)) (.cons (.asg (.meth g.ok (.local rfl rfl) (.cons (.local rfl rfl) rfl (.cons .str rfl .nil)) (cls_BlockBuilder g) (sim_BlockBuilder_table g) rfl rfl rfl rfl (fun _ => rfl) rfl rfl) (.inl rfl) (fun _ _ => rfl)) (.cons (.asg (.meth g.ok (.local rfl rfl) (.cons (.local rfl rfl) rfl (.cons .str rfl .nil)) (cls_BlockBuilder g) (sim_BlockBuilder_table g) rfl rfl rfl rfl (fun _ => rfl) rfl rfl) (.inl rfl) (fun _ _ => rfl)) (.cons (.asg (.local rfl rfl) (.inl rfl) (fun _ _ => rfl)) (.cons (.asg (.local rfl rfl) (.inl rfl) (fun _ _ => rfl)) (.cons (.iff (.cmp g.ok (.len g.ok (.local rfl rfl) (gb_len g) rfl rfl) .int rfl) (.cons (.asg (.meth g.ok (.local rfl rfl) .nil (cls_BlockBuilder g) (sim_BlockBuilder_fresh_label g) rfl rfl rfl rfl (fun _ => rfl) rfl rfl) (.inl rfl) (fun _ _ => rfl)) .nil) .nil) (.cons (.iff (.cmp g.ok (.len g.ok (.local rfl rfl) (gb_len g) rfl rfl) .int rfl) (.cons (.asg (.meth g.ok (.local rfl rfl) .nil (cls_BlockBuilder g) (sim_BlockBuilder_fresh_label g) rfl rfl rfl rfl (fun _ => rfl) rfl rfl) (.inl rfl) (fun _ _ => rfl)) .nil) .nil) (.cons (.asg (.meth g.ok (.local rfl rfl) (.cons (.meth g.ok (.local rfl rfl) (.cons (.local rfl rfl) rfl (.cons (.glob g.ok (gv_LIST_KEY g) rfl rfl) rfl .nil)) (cls_BlockBuilder g) (sim_BlockBuilder_matching_places g) rfl rfl rfl rfl (fun _ => rfl) rfl rfl) rfl .nil) (cls_BlockBuilder g) (sim_BlockBuilder_chain g) rfl rfl rfl rfl (fun _ => rfl) rfl rfl) (.inl rfl) (fun _ _ => rfl)) (.cons (.expr (.lmeth (.attr g.ok (cls_BlockBuilder g) (.local rfl rfl) rfl (fun _ => rfl)) (.cons (.tup (.cons .str rfl (.cons (.meth g.ok (.local rfl rfl) (.cons (.local rfl rfl) rfl .nil) (cls_BlockBuilder g) (sim_BlockBuilder_chain g) rfl rfl rfl rfl (fun _ => rfl) rfl rfl) rfl (.cons (.local rfl rfl) rfl (.cons (.local rfl rfl) rfl (.cons (.local rfl rfl) rfl .nil))))) rfl) rfl .nil) PySem.F.slot_list_append PySem.F.type_list_append lm_append (fun _ => rfl) rfl rfl) (fun _ => rfl)) (.cons (.iff (.cmp g.ok (.len g.ok (.local rfl rfl) (gb_len g) rfl rfl) .int rfl) (.cons (.expr (.lmeth (.attr g.ok (cls_BlockBuilder g) (.local rfl rfl) rfl (fun _ => rfl)) (.cons (.tup (.cons .str rfl (.cons (.local rfl rfl) rfl .nil)) rfl) rfl .nil) PySem.F.slot_list_append PySem.F.type_list_append lm_append (fun _ => rfl) rfl rfl) (fun _ => rfl)) (.cons (.expr (.lmeth (.attr g.ok (cls_BlockBuilder g) (.local rfl rfl) rfl (fun _ => rfl)) (.cons (.tup (.cons .str rfl (.cons (.local rfl rfl) rfl (.cons (.local rfl rfl) rfl .nil))) rfl) rfl .nil) PySem.F.slot_list_append PySem.F.type_list_append lm_append (fun _ => rfl) rfl rfl) (fun _ => rfl)) .nil)) .nil) (.cons (.iff (.cmp g.ok (.len g.ok (.local rfl rfl) (gb_len g) rfl rfl) .int rfl) (.cons (.expr (.lmeth (.attr g.ok (cls_BlockBuilder g) (.local rfl rfl) rfl (fun _ => rfl)) (.cons (.tup (.cons .str rfl (.cons (.local rfl rfl) rfl .nil)) rfl) rfl .nil) PySem.F.slot_list_append PySem.F.type_list_append lm_append (fun _ => rfl) rfl rfl) (fun _ => rfl)) (.cons (.expr (.lmeth (.attr g.ok (cls_BlockBuilder g) (.local rfl rfl) rfl (fun _ => rfl)) (.cons (.tup (.cons .str rfl (.cons (.local rfl rfl) rfl (.cons (.local rfl rfl) rfl .nil))) rfl) rfl .nil) PySem.F.slot_list_append PySem.F.type_list_append lm_append (fun _ => rfl) rfl rfl) (fun _ => rfl)) .nil)) .nil) .nil))))))))))
theorem sim_BlockBuilder_switch (g : Good w h0 mb) : SimFn (cx w h0 mb) 4 259 P.BlockBuilder_switch := SimFn.of g.ok (ok_BlockBuilder_switch g) ((by kernel_rfl : (fd w.params 259).scope.names = nm_BlockBuilder_switch) ▸ sb_BlockBuilder_switch g)
noncomputable def nm_all_variable : List (Str × NameKind) := [(Str.ofString "codes", .local), (Str.ofString "code", .local), (Str.ofString "VAR_KEY", .globalImplicit)]
theorem ok_all_variable (g : Good w h0 mb) : FnOk (cx w h0 mb) 196 (fd w.params 196) ["codes"] (bd w.params 196) := fnOk_of (by kernel_rfl) (vs1 fun _ => by kernel_rfl)
theorem sb_all_variable (g : Good w h0 mb) : SimSs (cx w h0 mb) 0 nm_all_variable (bd w.params 196) P.all_variable_b :=
  .cons (.forIn (.local rfl rfl) (.one (.inl rfl)) (.cons (.iff (.cmp g.ok (.attr g.ok (cls_ClauseCode g) (.local rfl rfl) rfl (fun _ => rfl)) (.glob g.ok (gv_VAR_KEY g) rfl rfl) rfl) (.cons (.ret .bool) .nil) .nil) .nil) (fun _ _ => rfl)) (.cons (.ret .bool) .nil)
theorem sim_all_variable (g : Good w h0 mb) : SimFn (cx w h0 mb) 1 196 P.all_variable := SimFn.of g.ok (ok_all_variable g) ((by kernel_rfl : (fd w.params 196).scope.names = nm_all_variable) ▸ sb_all_variable g)
noncomputable def nm_clause_groups : List (Str × NameKind) := [(Str.ofString "codes", .local), (Str.ofString "groups", .local), (Str.ofString "run", .local), (Str.ofString "place", .local), (Str.ofString "range", .globalImplicit), (Str.ofString "len", .globalImplicit), (Str.ofString "VAR_KEY", .globalImplicit)]
theorem ok_clause_groups (g : Good w h0 mb) : FnOk (cx w h0 mb) 301 (fd w.params 301) ["codes"] (bd w.params 301) := fnOk_of (by kernel_rfl) (vs1 fun _ => by kernel_rfl)
theorem sb_clause_groups (g : Good w h0 mb) : SimSs (cx w h0 mb) 0 nm_clause_groups (bd w.params 301) P.clause_groups_b :=
  .cons (.asg (.list .nil rfl) (.inl rfl) (fun _ _ => rfl)) (.cons (.asg (.list .nil rfl) (.inl rfl) (fun _ _ => rfl)) (.cons (.forR1 g.ok (.len g.ok (.local rfl rfl) (gb_len g) rfl rfl) (gb_range g) (.one (.inl rfl)) (.cons (.iff (.cmp g.ok (.attr g.ok (cls_ClauseCode g) (.item g.ok (.local rfl rfl) (.local rfl rfl)) rfl (fun _ => rfl)) (.glob g.ok (gv_VAR_KEY g) rfl rfl) rfl) (.cons (.iff (.cmp g.ok (.len g.ok (.local rfl rfl) (gb_len g) rfl rfl) .int rfl) (.cons (.expr (.lmeth (.local rfl rfl) (.cons (.local rfl rfl) rfl .nil) PySem.F.slot_list_append PySem.F.type_list_append lm_append (fun _ => rfl) rfl rfl) (fun _ => rfl)) (.cons (.asg (.list .nil rfl) (.inl rfl) (fun _ _ => rfl)) .nil)) .nil) (.cons (.expr (.lmeth (.local rfl rfl) (.cons (.list (.cons (.local rfl rfl) rfl .nil) rfl) rfl .nil) PySem.F.slot_list_append PySem.F.type_list_append lm_append (fun _ => rfl) rfl rfl) (fun _ => rfl)) .nil)) (.cons (.expr (.lmeth (.local rfl rfl) (.cons (.local rfl rfl) rfl .nil) PySem.F.slot_list_append PySem.F.type_list_append lm_append (fun _ => rfl) rfl rfl) (fun _ => rfl)) .nil)) .nil) rfl rfl) (.cons (.iff (.cmp g.ok (.len g.ok (.local rfl rfl) (gb_len g) rfl rfl) .int rfl) (.cons (.expr (.lmeth (.local rfl rfl) (.cons (.local rfl rfl) rfl .nil) PySem.F.slot_list_append PySem.F.type_list_append lm_append (fun _ => rfl) rfl rfl) (fun _ => rfl)) .nil) .nil) (.cons (.ret (.local rfl rfl)) .nil))))
theorem sim_clause_groups (g : Good w h0 mb) : SimFn (cx w h0 mb) 1 301 P.clause_groups := SimFn.of g.ok (ok_clause_groups g) ((by kernel_rfl : (fd w.params 301).scope.names = nm_clause_groups) ▸ sb_clause_groups g)
noncomputable def nm_group_block : List (Str × NameKind) := [(Str.ofString "symbols", .local), (Str.ofString "functor", .local), (Str.ofString "codes", .local), (Str.ofString "builder", .local), (Str.ofString "groups", .local), (Str.ofString "labels", .local), (Str.ofString "group", .local), (Str.ofString "row", .local), (Str.ofString "number", .local), (Str.ofString "len", .globalImplicit), (Str.ofString "small_block", .globalImplicit), (Str.ofString "all_variable", .globalImplicit), (Str.ofString "chain_block", .globalImplicit), (Str.ofString "BlockBuilder", .globalImplicit), (Str.ofString "clause_groups", .globalImplicit), (Str.ofString "range", .globalImplicit)]
theorem ok_group_block (g : Good w h0 mb) : FnOk (cx w h0 mb) 308 (fd w.params 308) ["symbols", "functor", "codes"] (bd w.params 308) := fnOk_of (by kernel_rfl) (vs3 fun _ _ _ => by kernel_rfl)
theorem sb_group_block (g : Good w h0 mb) : SimSs (cx w h0 mb) 4 nm_group_block (bd w.params 308) P.group_block_b :=
  .cons (.iff (.cmp g.ok (.len g.ok (.local rfl rfl) (gb_len g) rfl rfl) .int rfl) (.cons (.ret (.call g.ok (.cons (.local rfl rfl) rfl .nil) (sim_small_block g) (.inr rfl) rfl rfl rfl rfl)) .nil) .nil) (.cons (.iff (.or (.cons (.cmp g.ok (.meth g.ok (.local rfl rfl) (.cons (.local rfl rfl) rfl .nil) (cls_Symbols g) (sim_Symbols_arity g) rfl rfl rfl rfl (fun _ => rfl) rfl rfl) .int rfl) (.cons (.of (.call g.ok (.cons (.local rfl rfl) rfl .nil) (sim_all_variable g) (.inr rfl) rfl rfl rfl rfl) (fun _ _ => rfl)) .nil))) (.cons (.ret (.call g.ok (.cons (.local rfl rfl) rfl (.cons (.local rfl rfl) rfl (.cons (.local rfl rfl) rfl .nil))) (sim_chain_block g) (.inr rfl) rfl rfl rfl rfl)) .nil) .nil) (.cons (.asg (.new g.ok (.cons (.meth g.ok (.local rfl rfl) (.cons (.local rfl rfl) rfl .nil) (cls_Symbols g) (sim_Symbols_arity g) rfl rfl rfl rfl (fun _ => rfl) rfl rfl) rfl (.cons (.local rfl rfl) rfl .nil)) rfl rfl (gb_BlockBuilder g) (kp_BlockBuilder g) (mk_BlockBuilder g) (in_BlockBuilder g) (ty_BlockBuilder_init g) (sim_BlockBuilder_init g) (by decide)) (.inl rfl) (fun _ _ => rfl)) (.cons (.asg (.call g.ok (.cons (.local rfl rfl) rfl .nil) (sim_clause_groups g) (.inr rfl) rfl rfl rfl rfl) (.inl rfl) (fun _ _ => rfl)) (.cons (.iff (.cmp g.ok (.len g.ok (.local rfl rfl) (gb_len g) rfl rfl) .int rfl) (.cons (.expr (.meth g.ok (.local rfl rfl) (.cons (.item g.ok (.local rfl rfl) .int) rfl .nil) (cls_BlockBuilder g) (sim_BlockBuilder_switch g) rfl rfl rfl rfl (fun _ => rfl) rfl rfl) (fun _ => rfl)) (.cons (.ret (.meth g.ok (.local rfl rfl) .nil (cls_BlockBuilder g) (sim_BlockBuilder_finish g) rfl rfl rfl rfl (fun _ => rfl) rfl rfl)) .nil)) .nil) (.cons (.asg (.list .nil rfl) (.inl rfl) (fun _ _ => rfl)) (.cons (.forIn (.local rfl rfl) (.one (.inl rfl)) (.cons (.iff (.cmp g.ok (.len g.ok (.local rfl rfl) (gb_len g) rfl rfl) .int rfl) (.cons (.expr (.lmeth (.local rfl rfl) (.cons (.item g.ok (.local rfl rfl) .int) rfl .nil) PySem.F.slot_list_append PySem.F.type_list_append lm_append (fun _ => rfl) rfl rfl) (fun _ => rfl)) .nil) (.cons (.expr (.lmeth (.local rfl rfl) (.cons (.meth g.ok (.local rfl rfl) .nil (cls_BlockBuilder g) (sim_BlockBuilder_fresh_label g) rfl rfl rfl rfl (fun _ => rfl) rfl rfl) rfl .nil) PySem.F.slot_list_append PySem.F.type_list_append lm_append (fun _ => rfl) rfl rfl) (fun _ => rfl)) .nil)) .nil) (fun _ _ => rfl)) (.cons (.forIn (.meth g.ok (.local rfl rfl) (.cons (.local rfl rfl) rfl .nil) (cls_BlockBuilder g) (sim_BlockBuilder_chain_rows g) rfl rfl rfl rfl (fun _ => rfl) rfl rfl) (.one (.inl rfl)) (.cons (.expr (.lmeth (.attr g.ok (cls_BlockBuilder g) (.local rfl rfl) rfl (fun _ => rfl)) (.cons (.local rfl rfl) rfl .nil) PySem.F.slot_list_append PySem.F.type_list_append lm_append (fun _ => rfl) rfl rfl) (fun _ => rfl)) .nil) (fun _ _ => rfl)) (.cons (.forR1 g.ok (.len g.ok (.local rfl rfl) (gb_len g) rfl rfl) (gb_range g) (.one (.inl rfl)) (.cons (.iff (.cmp g.ok (.len g.ok (.item g.ok (.local rfl rfl) (.local rfl rfl)) (gb_len g) rfl rfl) .int rfl) (.cons (.expr (.lmeth (.attr g.ok (cls_BlockBuilder g) (.local rfl rfl) rfl (fun _ => rfl)) (.cons (.tup (.cons .str rfl (.cons (.item g.ok (.local rfl rfl) (.local rfl rfl)) rfl .nil)) rfl) rfl .nil) PySem.F.slot_list_append PySem.F.type_list_append lm_append (fun _ => rfl) rfl rfl) (fun _ => rfl)) (.cons (.expr (.meth g.ok (.local rfl rfl) (.cons (.item g.ok (.local rfl rfl) (.local rfl rfl)) rfl .nil) (cls_BlockBuilder g) (sim_BlockBuilder_switch g) rfl rfl rfl rfl (fun _ => rfl) rfl rfl) (fun _ => rfl)) .nil)) .nil) .nil) rfl rfl) (.cons (.ret (.meth g.ok (.local rfl rfl) .nil (cls_BlockBuilder g) (sim_BlockBuilder_finish g) rfl rfl rfl rfl (fun _ => rfl) rfl rfl)) .nil)))))))))
theorem sim_group_block (g : Good w h0 mb) : SimFn (cx w h0 mb) 5 308 P.group_block := SimFn.of g.ok (ok_group_block g) ((by kernel_rfl : (fd w.params 308).scope.names = nm_group_block) ▸ sb_group_block g)
noncomputable def nm_index_block : List (Str × NameKind) := [(Str.ofString "symbols", .local), (Str.ofString "functor", .local), (Str.ofString "codes", .local), (Str.ofString "builder", .local), (Str.ofString "len", .globalImplicit), (Str.ofString "small_block", .globalImplicit), (Str.ofString "all_variable", .globalImplicit), (Str.ofString "chain_block", .globalImplicit), (Str.ofString "BlockBuilder", .globalImplicit), (Str.ofString "list", .globalImplicit), (Str.ofString "range", .globalImplicit)]
theorem ok_index_block (g : Good w h0 mb) : FnOk (cx w h0 mb) 294 (fd w.params 294) ["symbols", "functor", "codes"] (bd w.params 294) := fnOk_of (by kernel_rfl) (vs3 fun _ _ _ => by kernel_rfl)
theorem sb_index_block (g : Good w h0 mb) : SimSs (cx w h0 mb) 4 nm_index_block (bd w.params 294) P.index_block_b :=
  .cons (.iff (.cmp g.ok (.len g.ok (.local rfl rfl) (gb_len g) rfl rfl) .int rfl) (.cons (.ret (.call g.ok (.cons (.local rfl rfl) rfl .nil) (sim_small_block g) (.inr rfl) rfl rfl rfl rfl)) .nil) .nil) (.cons (.iff (.or (.cons (.cmp g.ok (.meth g.ok (.local rfl rfl) (.cons (.local rfl rfl) rfl .nil) (cls_Symbols g) (sim_Symbols_arity g) rfl rfl rfl rfl (fun _ => rfl) rfl rfl) .int rfl) (.cons (.of (.call g.ok (.cons (.local rfl rfl) rfl .nil) (sim_all_variable g) (.inr rfl) rfl rfl rfl rfl) (fun _ _ => rfl)) .nil))) (.cons (.ret (.call g.ok (.cons (.local rfl rfl) rfl (.cons (.local rfl rfl) rfl (.cons (.local rfl rfl) rfl .nil))) (sim_chain_block g) (.inr rfl) rfl rfl rfl rfl)) .nil) .nil) (.cons (.asg (.new g.ok (.cons (.meth g.ok (.local rfl rfl) (.cons (.local rfl rfl) rfl .nil) (cls_Symbols g) (sim_Symbols_arity g) rfl rfl rfl rfl (fun _ => rfl) rfl rfl) rfl (.cons (.local rfl rfl) rfl .nil)) rfl rfl (gb_BlockBuilder g) (kp_BlockBuilder g) (mk_BlockBuilder g) (in_BlockBuilder g) (ty_BlockBuilder_init g) (sim_BlockBuilder_init g) (by decide)) (.inl rfl) (fun _ _ => rfl)) (.cons (.expr (.meth g.ok (.local rfl rfl) (.cons (.listRange g.ok (.len g.ok (.local rfl rfl) (gb_len g) rfl rfl) rfl rfl (gb_list g) rfl (gb_range g)) rfl .nil) (cls_BlockBuilder g) (sim_BlockBuilder_switch g) rfl rfl rfl rfl (fun _ => rfl) rfl rfl) (fun _ => rfl)) (.cons (.ret (.meth g.ok (.local rfl rfl) .nil (cls_BlockBuilder g) (sim_BlockBuilder_finish g) rfl rfl rfl rfl (fun _ => rfl) rfl rfl)) .nil))))
theorem sim_index_block (g : Good w h0 mb) : SimFn (cx w h0 mb) 5 294 P.index_block := SimFn.of g.ok (ok_index_block g) ((by kernel_rfl : (fd w.params 294).scope.names = nm_index_block) ▸ sb_index_block g)
noncomputable def nm_leaves_choice : List (Str × NameKind) := [(Str.ofString "codes", .local), (Str.ofString "cell_key", .local), (Str.ofString "len", .globalImplicit), (Str.ofString "candidates", .globalImplicit)]
theorem ok_leaves_choice (g : Good w h0 mb) : FnOk (cx w h0 mb) 355 (fd w.params 355) ["codes", "cell_key"] (bd w.params 355) := fnOk_of (by kernel_rfl) (vs2 fun _ _ => by kernel_rfl)
theorem sb_leaves_choice (g : Good w h0 mb) : SimSs (cx w h0 mb) 2 nm_leaves_choice (bd w.params 355) P.leaves_choice_b :=
  .cons (.ret (.cmp g.ok (.len g.ok (.call g.ok (.cons (.local rfl rfl) rfl (.cons (.local rfl rfl) rfl .nil)) (sim_candidates g) (.inr rfl) rfl rfl rfl rfl) (gb_len g) rfl rfl) .int rfl)) .nil
theorem sim_leaves_choice (g : Good w h0 mb) : SimFn (cx w h0 mb) 3 355 P.leaves_choice := SimFn.of g.ok (ok_leaves_choice g) ((by kernel_rfl : (fd w.params 355).scope.names = nm_leaves_choice) ▸ sb_leaves_choice g)
noncomputable def nm_law : List (Str × NameKind) := [(Str.ofString "script", .local), (Str.ofString "row", .local), (Str.ofString "signs", .local), (Str.ofString "wide", .local), (Str.ofString "name", .local), (Str.ofString "many", .local), (Str.ofString "codes", .local), (Str.ofString "place", .local), (Str.ofString "keys", .cell), (Str.ofString "calls", .local), (Str.ofString "blocks", .local), (Str.ofString "call", .cell), (Str.ofString "due", .local), (Str.ofString "block", .local), (Str.ofString "exact", .local), (Str.ofString "_law_row", .globalImplicit), (Str.ofString "Symbols", .globalImplicit), (Str.ofString "_law_next", .globalImplicit), (Str.ofString "range", .globalImplicit), (Str.ofString "ClauseCode", .globalImplicit), (Str.ofString "_law_key", .globalImplicit), (Str.ofString "INT", .globalImplicit), (Str.ofString "index_block", .globalImplicit), (Str.ofString "chain_block", .globalImplicit), (Str.ofString "group_block", .globalImplicit), (Str.ofString "candidates", .globalImplicit), (Str.ofString "leaves_choice", .globalImplicit), (Str.ofString "len", .globalImplicit), (Str.ofString "check_index", .globalImplicit), (Str.ofString "list", .globalImplicit), (Str.ofString "_law_spoiled", .globalImplicit), (Str.ofString "tried_clauses", .globalImplicit), (Str.ofString "_law_visits", .globalImplicit), (Str.ofString "_law_checked", .globalImplicit)]
theorem ok_law (g : Good w h0 mb) : FnOk (cx w h0 mb) 433 (fd w.params 433) ["script"] (bd w.params 433) := fnOk_of (by kernel_rfl) (vs1 fun _ => by kernel_rfl)
theorem sb_law (g : Good w h0 mb) : SimSs (cx w h0 mb) 5 nm_law (bd w.params 433) P.law_b :=
  .cons (.asg (.call g.ok (.cons (.local rfl rfl) rfl .nil) (sim_law_row g) (.inr rfl) rfl rfl rfl rfl) (.inl rfl) (fun _ _ => rfl)) (.cons (.asg (.new g.ok .nil rfl rfl (gb_Symbols g) (kp_Symbols g) (mk_Symbols g) (in_Symbols g) (ty_Symbols_init g) (sim_Symbols_init g) (by decide)) (.inl rfl) (fun _ _ => rfl)) (.cons (.asg (.bin .int (.bin (.call g.ok (.cons (.local rfl rfl) rfl .nil) (sim_law_next g) (.inr rfl) rfl rfl rfl rfl) .int)) (.inl rfl) (fun _ _ => rfl)) (.cons (.asg (.meth g.ok (.local rfl rfl) (.cons .str rfl (.cons (.local rfl rfl) rfl .nil)) (cls_Symbols g) (sim_Symbols_func g) rfl rfl rfl rfl (fun _ => rfl) rfl rfl) (.inl rfl) (fun _ _ => rfl)) (.cons (.asg (.bin .int (.bin (.call g.ok (.cons (.local rfl rfl) rfl .nil) (sim_law_next g) (.inr rfl) rfl rfl rfl rfl) .int)) (.inl rfl) (fun _ _ => rfl)) (.cons (.asg (.list .nil rfl) (.inl rfl) (fun _ _ => rfl)) (.cons (.forR1 g.ok (.local rfl rfl) (gb_range g) (.one (.inl rfl)) (.cons (.expr (.lmeth (.local rfl rfl) (.cons (.new g.ok (.cons (.local rfl rfl) rfl (.cons (.call g.ok (.cons (.local rfl rfl) rfl .nil) (sim_law_key g) (.inr rfl) rfl rfl rfl rfl) rfl (.cons (.list (.cons (.tup (.cons .str rfl (.cons (.tup (.cons (.glob g.ok (gv_INT g) rfl rfl) rfl (.cons (.local rfl rfl) rfl .nil)) rfl) rfl (.cons (.tup (.cons .str rfl (.cons .int rfl .nil)) rfl) rfl .nil))) rfl) rfl (.cons (.tup (.cons .str rfl .nil) rfl) rfl .nil)) rfl) rfl (.cons (.local rfl rfl) rfl .nil)))) rfl rfl (gb_ClauseCode g) (kp_ClauseCode g) (mk_ClauseCode g) (in_ClauseCode g) (ty_ClauseCode_init g) (sim_ClauseCode_init g) (by decide)) rfl .nil) PySem.F.slot_list_append PySem.F.type_list_append lm_append (fun _ => rfl) rfl rfl) (fun _ => rfl)) .nil) rfl rfl) (.cons (.asg (.comp ⟨rfl, by kernel_rfl, by kernel_rfl, by kernel_rfl, by decide +kernel⟩ (.local rfl rfl) (.one rfl) .nil (.attr g.ok (cls_ClauseCode g) (.local rfl rfl) rfl (fun _ => rfl)) (fun _ h => nomatch h) (fun _ _ => rfl)) (.inr rfl) (swaps_no (by kernel_rfl))) (.cons (.asg (.bin (.list (.cons (.tup (.cons .str rfl .nil) rfl) rfl (.cons (.tup (.cons .str rfl .nil) rfl) rfl (.cons (.tup (.cons .str rfl (.cons (.tup (.cons (.glob g.ok (gv_INT g) rfl rfl) rfl (.cons (.bin .int .int) rfl .nil)) rfl) rfl .nil)) rfl) rfl (.cons (.tup (.cons .str rfl (.cons .int rfl .nil)) rfl) rfl .nil)))) rfl) (.cell rfl rfl)) (.inl rfl) (fun _ _ => rfl)) (.cons (.asg (.list (.cons (.call g.ok (.cons (.local rfl rfl) rfl (.cons (.local rfl rfl) rfl (.cons (.local rfl rfl) rfl .nil))) (sim_index_block g) (.inr rfl) rfl rfl rfl rfl) rfl (.cons (.call g.ok (.cons (.local rfl rfl) rfl (.cons (.local rfl rfl) rfl (.cons (.local rfl rfl) rfl .nil))) (sim_chain_block g) (.inr rfl) rfl rfl rfl rfl) rfl (.cons (.call g.ok (.cons (.local rfl rfl) rfl (.cons (.local rfl rfl) rfl (.cons (.local rfl rfl) rfl .nil))) (sim_group_block g) (.inr rfl) rfl rfl rfl rfl) rfl .nil))) rfl) (.inl rfl) (fun _ _ => rfl)) (.cons (.forIn (.bin (.local rfl rfl) (.list (.cons (.call g.ok (.cons (.local rfl rfl) rfl .nil) (sim_law_key g) (.inr rfl) rfl rfl rfl rfl) rfl .nil) rfl)) (.one (.inr rfl)) (.cons (.asgCompR g.ok rfl ⟨rfl, by kernel_rfl, by kernel_rfl, by kernel_rfl, by decide +kernel⟩ (.local rfl rfl) rfl rfl (gb_range g) (.one rfl) (.one (.of (.call g.ok (.cons (.item g.ok (.cell rfl rfl) (.local rfl rfl)) rfl (.cons (.cell rfl rfl) rfl .nil)) (sim_law_matches g) (.inr rfl) rfl rfl rfl rfl) (fun _ _ => rfl))) (.local rfl rfl) (free2 (by kernel_rfl) (by kernel_rfl) (by kernel_rfl) (by kernel_rfl)) (swaps_yes (by kernel_rfl) rfl (by kernel_rfl))) (.cons (.iff (.or (.cons (.cmp g.ok (.call g.ok (.cons (.local rfl rfl) rfl (.cons (.cell rfl rfl) rfl .nil)) (sim_candidates g) (.inr rfl) rfl rfl rfl rfl) (.local rfl rfl) rfl) (.cons (.cmp g.ok (.call g.ok (.cons (.local rfl rfl) rfl (.cons (.cell rfl rfl) rfl .nil)) (sim_leaves_choice g) (.inr rfl) rfl rfl rfl rfl) (.cmp g.ok (.len g.ok (.local rfl rfl) (gb_len g) rfl rfl) .int rfl) rfl) .nil))) (.cons (.ret .bool) .nil) .nil) .nil)) (fun _ _ => rfl)) (.cons (.iff (.or (.cons (.not (.of (.call g.ok (.cons (.local rfl rfl) rfl (.cons (.item g.ok (.local rfl rfl) .int) rfl (.cons .bool rfl .nil))) (sim_check_index g) (.inr rfl) rfl rfl rfl rfl) (fun _ _ => rfl))) (.cons (.not (.of (.call g.ok (.cons (.local rfl rfl) rfl (.cons (.item g.ok (.local rfl rfl) .int) rfl (.cons .bool rfl .nil))) (sim_check_index g) (.inr rfl) rfl rfl rfl rfl) (fun _ _ => rfl))) (.cons (.not (.of (.call g.ok (.cons (.local rfl rfl) rfl (.cons (.item g.ok (.local rfl rfl) .int) rfl (.cons .bool rfl .nil))) (sim_check_index g) (.inr rfl) rfl rfl rfl rfl) (fun _ _ => rfl))) .nil)))) (.cons (.ret .bool) .nil) .nil) (.cons (.asg (.mklist g.ok (.item g.ok (.local rfl rfl) (.bin (.call g.ok (.cons (.local rfl rfl) rfl .nil) (sim_law_next g) (.inr rfl) rfl rfl rfl rfl) .int)) rfl rfl (gb_list g)) (.inl rfl) (fun _ _ => rfl)) (.cons (.asg (.call g.ok (.cons (.local rfl rfl) rfl (.cons (.local rfl rfl) rfl (.cons (.local rfl rfl) rfl .nil))) (sim_law_spoiled g) (.inr rfl) rfl rfl rfl rfl) (.inl rfl) (fun _ _ => rfl)) (.cons (.forIn (.local rfl rfl) (.one (.inr rfl)) (.cons (.iff (.cmp g.ok (.call g.ok (.cons (.local rfl rfl) rfl (.cons (.local rfl rfl) rfl (.cons (.cell rfl rfl) rfl .nil))) (sim_tried_clauses g) (.inr rfl) rfl rfl rfl rfl) (.comp ⟨rfl, by kernel_rfl, by kernel_rfl, by kernel_rfl, by decide +kernel⟩ (.call g.ok (.cons (.local rfl rfl) rfl (.cons (.local rfl rfl) rfl (.cons (.local rfl rfl) rfl (.cons (.cell rfl rfl) rfl .nil)))) (sim_law_visits g) (.inr rfl) rfl rfl rfl rfl) (.two rfl rfl) .nil (.local rfl rfl) (fun _ h => nomatch h) (fun _ _ => rfl)) rfl) (.cons (.ret .bool) .nil) .nil) .nil) (fun _ _ => rfl)) (.cons (.forIn (.list (.cons .bool rfl (.cons .bool rfl .nil)) rfl) (.one (.inl rfl)) (.cons (.iff (.cmp g.ok (.call g.ok (.cons (.local rfl rfl) rfl (.cons (.local rfl rfl) rfl (.cons (.local rfl rfl) rfl .nil))) (sim_check_index g) (.inr rfl) rfl rfl rfl rfl) (.call g.ok (.cons (.local rfl rfl) rfl (.cons (.cell rfl rfl) rfl (.cons (.local rfl rfl) rfl (.cons (.local rfl rfl) rfl (.cons (.local rfl rfl) rfl .nil))))) (sim_law_checked g) (.inr rfl) rfl rfl rfl rfl) rfl) (.cons (.ret .bool) .nil) .nil) .nil) (fun _ _ => rfl)) (.cons (.ret .bool) .nil))))))))))))))))
theorem sim_law (g : Good w h0 mb) : SimFn (cx w h0 mb) 6 433 P.law := SimFn.of g.ok (ok_law g) ((by kernel_rfl : (fd w.params 433).scope.names = nm_law) ▸ sb_law g)
end
/-! the data of the law -/
inductive Key where
  | var
  | list
  | st (f : Int)
  | co (c n : Int)
deriving DecidableEq
inductive Kind where
  | var | co | list | st
deriving DecidableEq
noncomputable def Key.kind : Key → Kind
  | .var => .var
  | .list => .list
  | .st _ => .st
  | .co _ _ => .co
noncomputable def Key.enc : Key → V
  | .var => .tup [.str "var"]
  | .list => .tup [.str "list"]
  | .st f => .tup [.str "struct", .int f]
  | .co c n => .tup [.str "const", .tup [.int c, .int n]]
noncomputable def V.nth (v : V) (n : Nat) : V := match v with
  | .tup vs => vs[n]?.getD .none
  | _ => .none
noncomputable def V.toI : V → Int
  | .int i => i
  | _ => 0
noncomputable def V.toS : V → String
  | .str s => s
  | _ => ""
noncomputable def Key.dec (v : V) : Key :=
  if (v.nth 0).toS = "var" then .var else if (v.nth 0).toS = "list" then .list else if (v.nth 0).toS = "struct" then .st (v.nth 1).toI else .co ((v.nth 1).nth 0).toI ((v.nth 1).nth 1).toI
theorem Key.dec_enc (a : Key) : Key.dec a.enc = a := by cases a <;> rfl
theorem Key.enc_inj {a b : Key} (h : a.enc = b.enc) : a = b := (dec_enc a).symm.trans ((congrArg Key.dec h).trans (dec_enc b))
theorem Key.enc_flat (a : Key) : flatN 8 a.enc = true := by cases a <;> rfl
noncomputable def Kind.word : Kind → String
  | .var => "var"
  | .co => "const"
  | .list => "list"
  | .st => "struct"
noncomputable def mat (a b : Key) : Bool := (decide (a = .var) || decide (b = .var)) || decide (a = b)
theorem binV_mod {H : Hp} {a b : Int} (h : b ≠ 0) : binV .Mod H (.int a) (.int b) = some (.int (a.fmod b), H) := if_pos h
theorem binV_div {H : Hp} {a b : Int} (h : b ≠ 0 ∧ b.natAbs < 1073741824) : binV .FloorDiv H (.int a) (.int b) = some (.int (a.fdiv b), H) := if_pos (dec_eq_true_iff.mpr h)
theorem binV_pow {H : Hp} {a b : Int} (h : 0 ≤ b ∧ b ≤ 1000 ∧ a.natAbs < 1000) : binV .Pow H (.int a) (.int b) = some (.int (a ^ b.toNat), H) := if_pos (dec_eq_true_iff.mpr h)
theorem binV_tups {H : Hp} {a b : List V} (h : a.length + b.length ≤ big) : binV .Add H (.tup a) (.tup b) = some (.tup (a ++ b), H) := if_pos h
theorem binV_lists {H : Hp} {i j : Nat} {a b : List V} (h1 : H[i]? = some (.list a)) (h2 : H[j]? = some (.list b)) (h : a.length + b.length ≤ big) : binV .Add H (.ref i) (.ref j) = some (.ref H.length, H ++ [.list (a ++ b)]) := by
  show ((V.ref i).asL H).bind _ = _
  rw [V.asL_ref h1, Option.bind_some, V.asL_ref h2]
  exact if_pos h
theorem eqV_flat {H : Hp} {x y : V} (hx : flat x = true) (hy : flat y = true) : eqV H x y = some (dec (x = y)) := by
  cases x with
  | bool b => cases hx
  | ref i => cases hx
  | frz vs => cases hx
  | none => exact if_pos ⟨hx, hy⟩
  | int i => exact if_pos ⟨hx, hy⟩
  | str s => exact if_pos ⟨hx, hy⟩
  | tup vs => exact if_pos ⟨hx, hy⟩
theorem dec_inj {α : Type} [DecidableEq α] {f : α → V} {a b : α} (h : f a = f b → a = b) : dec (f a = f b) = decide (a = b) := by
  rw [← dec_decide]
  exact dec_iff (dec_eq_true_iff.trans ⟨h, congrArg f⟩)
theorem eqV_of {α : Type} [DecidableEq α] {H : Hp} (f : α → V) {a b : α} (ha : flat (f a) = true) (hb : flat (f b) = true) (h : f a = f b → a = b) : eqV H (f a) (f b) = some (decide (a = b)) := (eqV_flat ha hb).trans (congrArg some (dec_inj h))
theorem eqV_int {H : Hp} (a b : Int) : eqV H (.int a) (.int b) = some (decide (a = b)) := eqV_of V.int rfl rfl V.int.inj
theorem eqV_str {H : Hp} (a b : String) : eqV H (.str a) (.str b) = some (decide (a = b)) := eqV_of V.str rfl rfl V.str.inj
theorem eqV_key {H : Hp} (a b : Key) : eqV H a.enc b.enc = some (decide (a = b)) := eqV_of Key.enc a.enc_flat b.enc_flat Key.enc_inj
theorem eqV_key_var {H : Hp} (a : Key) : eqV H a.enc (.tup [.str "var"]) = some (decide (a = .var)) := eqV_key a .var
/-- it gives something, and that has P -/
noncomputable def Run {α : Type} (t : Option α) (P : α → Prop) : Prop := ∃ r, t = some r ∧ P r
theorem Run.mono {α : Type} {t : Option α} {P Q : α → Prop} (h : Run t P) (k : ∀ r, P r → Q r) : Run t Q := let ⟨r, e, p⟩ := h; ⟨r, e, k r p⟩
theorem stillIs_tup (vs : List V) (H : Hp) : S.stillIs (.tup vs) vs H = true := dec_eq_true_iff.mpr rfl
theorem yes_ok (H : Hp) : S.yes H = true := rfl
inductive Row where
  | lab (l : Int)
  | try_ (l a : Int)
  | retry (l : Int)
  | trust (l : Int)
  | swt (v c li s : Int)
  | sw (k : Kind) (ps : List (Key × Int)) (d : Int)
  | getc (p : Int)
  | proceed
noncomputable def Key.argV : Key → V
  | .st f => .int f
  | .co c n => .tup [.int c, .int n]
  | _ => .none
noncomputable def encP (p : Key × Int) : V := .tup [p.1.argV, .int p.2]
noncomputable def Row.enc : Row → V
  | .lab l => .tup [.str "label", .int l]
  | .try_ l a => .tup [.str "try", .int l, .int a]
  | .retry l => .tup [.str "retry", .int l]
  | .trust l => .tup [.str "trust", .int l]
  | .swt v c li s => .tup [.str "switch_on_term", .int v, .int c, .int li, .int s]
  | .sw k ps d => .tup [.str (if k = .co then "switch_on_constant" else "switch_on_structure"), .tup (ps.map encP), .int d]
  | .getc p => .tup [.str "get_constant", .tup [.int 5, .int p], .tup [.str "x", .int 1]]
  | .proceed => .tup [.str "proceed"]
noncomputable def tabl (k : Kind) : Prop := k = .co ∨ k = .st
theorem argV_flat (a : Key) : flatN 8 a.argV = true := by cases a <;> rfl
theorem enc_item1 {k : Key} (h : tabl k.kind) : k.enc = .tup [.str k.kind.word, k.argV] := by
  cases k with
  | var => rcases h with h | h <;> cases h
  | list => rcases h with h | h <;> cases h
  | _ => rfl
theorem eqV_arg {H : Hp} {a b : Key} (h : a.kind = b.kind) (hk : tabl b.kind) : eqV H a.argV b.argV = some (decide (a = b)) :=
  eqV_of Key.argV (argV_flat a) (argV_flat b) fun e => Key.enc_inj (by rw [enc_item1 (h.symm ▸ hk), enc_item1 hk, h, e])
/-- the label that a table's row gives -/
noncomputable def look (key : Key) (d : Int) : List (Key × Int) → Int
  | [] => d
  | p :: r => if p.1 = key then p.2 else look key d r
noncomputable def selT (v c li s : Int) : Kind → Int
  | .var => v
  | .co => c
  | .list => li
  | .st => s
/-- the label that a row leads to -/
noncomputable def sel (key : Key) : Row → Int
  | .try_ l _ => l
  | .retry l => l
  | .trust l => l
  | .swt v c li s => selT v c li s key.kind
  | .sw _ ps d => look key d ps
  | _ => -1
noncomputable def okTab (key : Key) (k : Kind) (ps : List (Key × Int)) : Prop := key.kind = k ∧ tabl k ∧ ∀ p ∈ ps, p.1.kind = k
noncomputable def Row.word : Row → String
  | .lab _ => "label"
  | .try_ _ _ => "try"
  | .retry _ => "retry"
  | .trust _ => "trust"
  | .swt _ _ _ _ => "switch_on_term"
  | .sw k _ _ => if k = .co then "switch_on_constant" else "switch_on_structure"
  | .getc _ => "get_constant"
  | .proceed => "proceed"
theorem Run_fn {b : Sx} {ps : List String} {Xs : List V} {H : Hp} {P : V × Hp → Prop} (hl : Xs.length = ps.length) (h : Run (b (args ps Xs) H) fun r => P (match r.1 with | .ret v => (v, r.2.2) | _ => (.none, r.2.2))) : Run (fnOf ps b Xs H) P := by
  obtain ⟨⟨fl, m, H2⟩, e, p⟩ := h
  unfold fnOf
  rw [if_pos hl, e, Option.bind_some]
  cases fl <;> exact ⟨_, rfl, p⟩
theorem Run_eq {α : Type} {t : Option α} {a : α} (h : Run t fun r => r = a) : t = some a := let ⟨_, e, p⟩ := h; p ▸ e
theorem fn_ret {ps : List String} {b : Sx} {Xs : List V} {H H2 : Hp} {m : Loc} {v : V} (hl : Xs.length = ps.length) (h : b (args ps Xs) H = some (.ret v, m, H2)) : fnOf ps b Xs H = some (v, H2) := by unfold fnOf; rw [if_pos hl, h]; rfl
/-! small steps of a walk, each an equation -/
section
variable {m m1 : Loc} {H H1 H2 H3 : Hp} {x y : String} {X Y Z : V} {a b c o i e : Ex} {A B R : Sx} {t : Tx} {i1 i2 : Int}
theorem Run.of {α : Type} {t t' : Option α} {P : α → Prop} (e : t = t') (h : Run t' P) : Run t P := e ▸ h
theorem e_var (h : m x = some X) : E.var x m H = some (X, H) := by unfold E.var; rw [h]; rfl
theorem e_item (ho : o m H = some (X, H1)) (hi : i m H1 = some (Y, H2)) (hg : getI H2 X Y = some Z) : E.item o i m H = some (Z, H2) := by unfold E.item; rw [ho, Option.bind_some, hi, Option.bind_some, hg]; rfl
theorem e_item0 (ho : o m H = some (X, H1)) (hg : getI H1 X Y = some Z) : E.item o (E.const Y) m H = some (Z, H1) := e_item ho rfl hg
theorem e_itemv (ho : m x = some X) (hg : getI H X Y = some Z) : E.item (E.var x) (E.const Y) m H = some (Z, H) := e_item (e_var ho) rfl hg
theorem e_itemvv (ho : m x = some X) (hi : m y = some Y) (hg : getI H X Y = some Z) : E.item (E.var x) (E.var y) m H = some (Z, H) := e_item (e_var ho) (e_var hi) hg
theorem e_call1 {f : Fn} {r : Option (V × Hp)} (h : a m H = some (X, H1)) (hf : f [X] H1 = r) : E.call f [a] m H = r := by unfold E.call; simp only [E.evs, h, Option.bind_some, Option.map_some]; exact hf
theorem e_call2 {f : Fn} {r : Option (V × Hp)} (h : a m H = some (X, H1)) (h2 : b m H1 = some (Y, H2)) (hf : f [X, Y] H2 = r) : E.call f [a, b] m H = r := by unfold E.call; simp only [E.evs, h, h2, Option.bind_some, Option.map_some]; exact hf
theorem e_call3 {f : Fn} {r : Option (V × Hp)} (h : a m H = some (X, H1)) (h2 : b m H1 = some (Y, H2)) (h3 : c m H2 = some (Z, H3)) (hf : f [X, Y, Z] H3 = r) : E.call f [a, b, c] m H = r := by unfold E.call; simp only [E.evs, h, h2, h3, Option.bind_some, Option.map_some]; exact hf
theorem e_add (h : a m H = some (.int i1, H1)) (h2 : b m H1 = some (.int i2, H2)) : E.bin .Add a b m H = some (.int (i1 + i2), H2) := by unfold E.bin; rw [h, Option.bind_some, h2]; rfl
theorem e_sub (h : a m H = some (.int i1, H1)) (h2 : b m H1 = some (.int i2, H2)) : E.bin .Sub a b m H = some (.int (i1 - i2), H2) := by unfold E.bin; rw [h, Option.bind_some, h2]; rfl
theorem e_len {r : Nat} {vs : List V} (h : a m H = some (.ref r, H1)) (hl : H1[r]? = some (.list vs)) : E.len a m H = some (.int vs.length, H1) := by unfold E.len; rw [h]; show ((V.ref r).asL H1).map _ = _; rw [V.asL_ref hl]; rfl
theorem e_list0 : E.list [] m H = some (.ref H.length, H ++ [.list []]) := rfl
theorem t_cmp {op : CmpOp} {r : Bool} (h : a m H = some (X, H1)) (h2 : b m H1 = some (Y, H2)) (hc : cmpV op H2 X Y = some r) : T.cmp op a b m H = some (r, H2) := by unfold T.cmp; rw [h, Option.bind_some, h2, Option.bind_some, hc]; rfl
theorem t_eqs {s s' : String} (h : a m H = some (.str s, H1)) : T.cmp .Eq a (E.const (.str s')) m H = some (decide (s = s'), H1) := t_cmp h rfl (eqV_str (H := H1) s s')
theorem t_eqi {j : Int} (h : a m H = some (.int i1, H1)) : T.cmp .Eq a (E.const (.int j)) m H = some (decide (i1 = j), H1) := t_cmp h rfl (eqV_int (H := H1) i1 j)
theorem t_nei {j : Int} (h : a m H = some (.int i1, H1)) : T.cmp .NotEq a (E.const (.int j)) m H = some (!decide (i1 = j), H1) := t_cmp h rfl (by unfold cmpV; rw [eqV_int]; rfl)
theorem t_lt (h : a m H = some (.int i1, H1)) (h2 : b m H1 = some (.int i2, H2)) : T.cmp .Lt a b m H = some (decide (i1 < i2), H2) := t_cmp h h2 rfl
theorem t_gt (h : a m H = some (.int i1, H1)) (h2 : b m H1 = some (.int i2, H2)) : T.cmp .Gt a b m H = some (decide (i2 < i1), H2) := t_cmp h h2 rfl
theorem t_ge (h : a m H = some (.int i1, H1)) (h2 : b m H1 = some (.int i2, H2)) : T.cmp .GtE a b m H = some (decide (i2 ≤ i1), H2) := t_cmp h h2 rfl
theorem t_or2 {t' : Tx} {p q : Bool} (h : t m H = some (p, H)) (h2 : t' m H = some (q, H)) : T.or [t, t'] m H = some (p || q, H) := by
  simp only [T.or, h, h2, Option.bind_some]; cases p <;> cases q <;> rfl
theorem t_and2 {t' : Tx} {p q : Bool} (h : t m H = some (p, H)) (h2 : t' m H = some (q, H)) : T.and [t, t'] m H = some (p && q, H) := by
  simp only [T.and, h, h2, Option.bind_some]; cases p <;> cases q <;> rfl
/-- a statement that goes on -/
theorem s_one {r : Option (Fl × Loc × Hp)} (h : A m H = some (.next, m1, H1)) (hr : R m1 H1 = r) : S.seq A R m H = r := by unfold S.seq; rw [h]; exact hr
theorem s_asg {r : Option (Fl × Loc × Hp)} (h : a m H = some (X, H1)) (hr : R (upd m x X) H1 = r) : S.seq (S.asg x a) R m H = r := s_one (by unfold S.asg; rw [h]; rfl) hr
theorem s_expr {r : Option (Fl × Loc × Hp)} (h : a m H = some (X, H1)) (hr : R m H1 = r) : S.seq (S.expr a) R m H = r := s_one (by unfold S.expr; rw [h]; rfl) hr
theorem s_ret (h : a m H = some (X, H1)) : S.seq (S.ret a) R m H = some (.ret X, m, H1) := by unfold S.seq S.ret; rw [h]; rfl
/-- an if whose arm goes on, or returns -/
theorem s_iff {p : Bool} {r : Option (Fl × Loc × Hp)} (h : t m H = some (p, H1)) (hr : S.seq (if p = true then A else B) R m H1 = r) : S.seq (S.iff t A B) R m H = r := by
  subst hr; unfold S.seq S.iff; rw [h]; cases p <;> rfl
theorem s_iffT {r : Option (Fl × Loc × Hp)} (h : t m H = some (true, H1)) (hr : S.seq A R m H1 = r) : S.seq (S.iff t A B) R m H = r := s_iff h hr
theorem s_iffF {r : Option (Fl × Loc × Hp)} (h : t m H = some (false, H1)) (hr : S.seq B R m H1 = r) : S.seq (S.iff t A B) R m H = r := s_iff h hr
theorem s_skip {r : Option (Fl × Loc × Hp)} (h : t m H = some (false, H1)) (hr : R m H1 = r) : S.seq (S.iff t A S.nil) R m H = r := s_iff h hr
/-- (a; b); c is a; (b; c) -/
theorem s_assoc : S.seq (S.seq A B) R m H = S.seq A (S.seq B R) m H := by
  unfold S.seq
  cases h : A m H with
  | none => rfl
  | some p => obtain ⟨fl, m1, H1⟩ := p; cases fl <;> rfl
theorem s_nil : S.seq S.nil R m H = R m H := rfl
/-- list.append(x) -/
theorem e_app {r : Nat} {vs vs1 : List V} (ho : o m H = some (.ref r, H1)) (h0 : H1[r]? = some (.list vs)) (ha : a m H1 = some (X, H2)) (h1 : H2[r]? = some (.list vs1)) (hb : vs1.length < big) : E.lmeth E.opAppend o [a] m H = some (.none, H2.set r (.list (vs1 ++ [X]))) := by
  unfold E.lmeth
  rw [ho, Option.bind_some]
  simp only [lst_ref h0, lst_ref h1, Option.bind_some, E.evs, ha, Option.map_some]
  exact if_pos hb
theorem e_pop {r : Nat} {vs : List V} (ho : o m H = some (.ref r, H1)) (h0 : H1[r]? = some (.list (vs ++ [X]))) : E.lmeth E.opPop o [] m H = some (X, H1.set r (.list vs)) := by
  unfold E.lmeth
  rw [ho, Option.bind_some]
  simp only [lst_ref h0, Option.bind_some, E.evs]
  show ((vs ++ [X]).getLast?.map fun Y => (Y, H1.set r (.list (vs ++ [X]).dropLast))) = _
  rw [List.getLast?_concat, List.dropLast_concat]
  rfl
@[simp] theorem upd_self : upd m x X x = some X := if_pos rfl
theorem upd_ne (h : y ≠ x) : upd m x X y = m y := if_neg h
theorem lt_big {n : Nat} (h : n < 100000) : n < big := Nat.lt_trans h (by decide)
end
/-- it answers v -/
noncomputable def RunV (t : Option (V × Hp)) (v : V) (Q : Hp → Prop) : Prop := ∃ H2, t = some (v, H2) ∧ Q H2
/-- it answers a place of the heap -/
noncomputable def RunR (t : Option (V × Hp)) (Q : Nat → Hp → Prop) : Prop := ∃ q H2, t = some (.ref q, H2) ∧ Q q H2
theorem RunV.use {t : Option (V × Hp)} {v : V} {Q : Hp → Prop} {G : Prop} (h : RunV t v Q) (k : ∀ H2, t = some (v, H2) → Q H2 → G) : G := let ⟨H2, e, q⟩ := h; k H2 e q
theorem RunR.use {t : Option (V × Hp)} {Q : Nat → Hp → Prop} {G : Prop} (h : RunR t Q) (k : ∀ q H2, t = some (.ref q, H2) → Q q H2 → G) : G := let ⟨q, H2, e, p⟩ := h; k q H2 e p
theorem RunV_fn {b : Sx} {ps : List String} {Xs : List V} {H : Hp} {v : V} {Q : Hp → Prop} (hl : Xs.length = ps.length) (h : Run (b (args ps Xs) H) fun z => z.1 = .ret v ∧ Q z.2.2) : RunV (fnOf ps b Xs H) v Q := by
  obtain ⟨⟨fl, m, H2⟩, e, rfl, p⟩ := h
  exact ⟨H2, by unfold fnOf; rw [if_pos hl, e]; rfl, p⟩
theorem RunN_fn {b : Sx} {ps : List String} {Xs : List V} {H : Hp} {Q : Hp → Prop} (hl : Xs.length = ps.length) (h : Run (b (args ps Xs) H) fun z => z.1 = .next ∧ Q z.2.2) : RunV (fnOf ps b Xs H) .none Q := by
  obtain ⟨⟨fl, m, H2⟩, e, rfl, p⟩ := h
  exact ⟨H2, by unfold fnOf; rw [if_pos hl, e]; rfl, p⟩
theorem RunR_fn {b : Sx} {ps : List String} {Xs : List V} {H : Hp} {Q : Nat → Hp → Prop} (hl : Xs.length = ps.length) (h : Run (b (args ps Xs) H) fun z => ∃ q, z.1 = .ret (.ref q) ∧ Q q z.2.2) : RunR (fnOf ps b Xs H) Q := by
  obtain ⟨⟨fl, m, H2⟩, e, q, rfl, p⟩ := h
  exact ⟨q, H2, by unfold fnOf; rw [if_pos hl, e]; rfl, p⟩
section
variable {m m1 : Loc} {H H1 H2 H3 : Hp} {x y : String} {X Y Z v : V} {a b c o i e : Ex} {A B R : Sx} {t : Tx} {r q : Nat} {vs : List V} {P : Fl × Loc × Hp → Prop}
theorem Run.ret {Q : Fl × Loc × Hp → Prop} (h : a m H = some (X, H1)) (p : Q (.ret X, m, H1)) : Run (S.seq (S.ret a) R m H) Q := ⟨_, s_ret h, p⟩
theorem Run.iff {p : Bool} (h : t m H = some (p, H1)) (ht : p = true → Run (S.seq A R m H1) P) (hf : p = false → Run (S.seq B R m H1) P) : Run (S.seq (S.iff t A B) R m H) P := by
  cases p with
  | true => exact .of (s_iffT h rfl) (ht rfl)
  | false => exact .of (s_iffF h rfl) (hf rfl)
theorem e_attr {C : Addr} {f : String} {fs : List (String × V)} (h : a m H = some (.ref r, H1)) (ho : H1[r]? = some (.inst C fs)) (hf : fs.lookup f = some X) : E.attr C f a m H = some (X, H1) := by
  unfold E.attr E.fld
  rw [h, Option.bind_some, V.asN_ref ho, Option.bind_some, hf]
  rfl
theorem e_inst {C : Addr} {f : String} {fs : List (String × V)} (ho : H[r]? = some (.inst C fs)) (hf : fs.lookup f = none) : E.inst C f H (.ref r) = some r := by
  unfold E.inst
  rw [V.asN_ref ho, Option.bind_some, if_pos hf]
theorem e_meth0 {C : Addr} {f : String} {g : Fn} {fs : List (String × V)} {w : Option (V × Hp)} (h : a m H = some (.ref r, H1)) (ho : H1[r]? = some (.inst C fs)) (hf : fs.lookup f = none) (hg : g [.ref r] H1 = w) : E.meth C f g a [] m H = w := by
  unfold E.meth
  rw [h]
  simp only [Option.bind_some, e_inst ho hf, E.evs]
  exact hg
theorem e_meth1 {C : Addr} {f : String} {g : Fn} {fs : List (String × V)} {w : Option (V × Hp)} (h : a m H = some (.ref r, H1)) (ho : H1[r]? = some (.inst C fs)) (hf : fs.lookup f = none) (hb : b m H1 = some (Y, H2)) (hg : g [.ref r, Y] H2 = w) : E.meth C f g a [b] m H = w := by
  unfold E.meth
  rw [h]
  simp only [Option.bind_some, e_inst ho hf, E.evs, hb, Option.map_some]
  exact hg
theorem e_meth2 {C : Addr} {f : String} {g : Fn} {fs : List (String × V)} {w : Option (V × Hp)} (h : a m H = some (.ref r, H1)) (ho : H1[r]? = some (.inst C fs)) (hf : fs.lookup f = none) (hb : b m H1 = some (Y, H2)) (hc : c m H2 = some (Z, H3)) (hg : g [.ref r, Y, Z] H3 = w) : E.meth C f g a [b, c] m H = w := by
  unfold E.meth
  rw [h]
  simp only [Option.bind_some, e_inst ho hf, E.evs, hb, hc, Option.map_some]
  exact hg
theorem e_new {C : Addr} {g : Fn} {fs : List Ex} (h : E.evs fs m H = some (vs, H1)) (hg : g (.ref H1.length :: vs) (H1 ++ [.inst C []]) = some (.none, H2)) : E.new C g fs m H = some (.ref H1.length, H2) := by
  unfold E.new
  rw [h, Option.bind_some, hg]
  rfl
theorem evs1 (h : a m H = some (X, H1)) : E.evs [a] m H = some ([X], H1) := by simp only [E.evs, h, Option.bind_some, Option.map_some]
theorem evs2 (h : a m H = some (X, H1)) (h2 : b m H1 = some (Y, H2)) : E.evs [a, b] m H = some ([X, Y], H2) := by simp only [E.evs, h, h2, Option.bind_some, Option.map_some]
theorem evs3 (h : a m H = some (X, H1)) (h2 : b m H1 = some (Y, H2)) (h3 : c m H2 = some (Z, H3)) : E.evs [a, b, c] m H = some ([X, Y, Z], H3) := by simp only [E.evs, h, h2, h3, Option.bind_some, Option.map_some]
theorem evsC {fs : List Ex} (h : a m H = some (X, H1)) (h2 : E.evs fs m H1 = some (vs, H2)) : E.evs (a :: fs) m H = some (X :: vs, H2) := by simp only [E.evs, h, h2, Option.bind_some, Option.map_some]
theorem e_tup {fs : List Ex} (h : E.evs fs m H = some (vs, H1)) : E.tup fs m H = some (.tup vs, H1) := by unfold E.tup; rw [h]; rfl
theorem e_list {fs : List Ex} (h : E.evs fs m H = some (vs, H1)) : E.list fs m H = some (.ref H1.length, H1 ++ [.list vs]) := by unfold E.list; rw [h]; rfl
theorem e_mktup (h : a m H = some (.ref r, H1)) (hl : H1[r]? = some (.list vs)) : E.mktup a m H = some (.tup vs, H1) := by unfold E.mktup; rw [h, Option.bind_some, V.asL_ref hl]; rfl
theorem e_lent (h : a m H = some (.tup vs, H1)) (hb : vs.length < 100000) : E.len a m H = some (.int vs.length, H1) := by unfold E.len; rw [h]; show (if vs.length ≤ big then some vs else Option.none).map _ = _; rw [if_pos (Nat.le_of_lt (lt_big hb))]; rfl
theorem nat_sm {n : Nat} {u w : Int} (h : n < 100000) (hu : u < 0) (hw : 100000 ≤ w) : sm u w (n : Int) = true := sm_iff.mpr ⟨by omega, by omega⟩
theorem e_t {p : Bool} (h : a m H = some (.bool p, H1)) : T.of a m H = some (p, H1) := by unfold T.of; rw [h]; rfl
theorem t_inF {X Y : V} (h : a m H = some (X, H1)) (h2 : b m H1 = some (Y, H2)) {p : Bool} (hc : inV H2 X Y = some p) : T.cmp .NotIn a b m H = some (!p, H2) := t_cmp h h2 (by unfold cmpV; rw [hc]; rfl)
theorem s_item {D : Dct} {D2 : Dct} (h : e m H = some (X, H1)) (ho : o m H1 = some (.ref r, H2)) (hi : i m H2 = some (Y, H3)) (hd : H3[r]? = some (.dict D)) (hp : D.put Y X = some D2) : S.asgItem o i e m H = some (.next, m, H3.set r (.dict D2)) := by
  unfold S.asgItem putI
  rw [h, Option.bind_some, ho, Option.bind_some, hi, Option.bind_some]
  show (((H3[r]?.bind (putO Y X)).map fun o => H3.set r o).map _) = _
  rw [hd]
  show ((((D.put Y X).map O.dict).map fun o => H3.set r o).map _) = _
  rw [hp]
  rfl
theorem s_attr {C : Addr} {f : String} {fs : List (String × V)} (h : e m H = some (X, H1)) (ho : o m H1 = some (.ref r, H2)) (hi : H2[r]? = some (.inst C fs)) (hl : fs.length < 50) : S.asgAttr C f o e m H = some (.next, m, H2.set r (.inst C (E.putF f X fs))) := by
  unfold S.asgAttr E.setF
  rw [h, Option.bind_some, ho, Option.bind_some, V.asN_ref hi, Option.bind_some, if_pos hl]
  rfl
theorem h_get {o : O} (h : H[r]? = some o) : getI H (.ref r) X = getO o X := by show H[r]?.bind _ = _; rw [h]; rfl
theorem h_in {o : O} (h : H[r]? = some o) : inV H X (.ref r) = inO X o := by show H[r]?.bind _ = _; rw [h]; rfl
theorem list_get {n : Nat} (h : H[r]? = some (.list vs)) (hv : vs[n]? = some X) : getI H (.ref r) (.int n) = some X := by
  rw [h_get h]
  show idx vs (n : Int) = some X
  unfold idx
  rw [if_pos (Int.natCast_nonneg n)]
  exact hv
theorem tup_get {n : Nat} (hn : n < 1000) (hv : vs[n]? = some X) : getI H (.tup vs) (.int n) = some X := (if_pos (sm_iff.mpr ⟨by omega, by omega⟩)).trans hv
end
theorem s_stop {A R : Sx} {m m1 : Loc} {H H1 : Hp} {v : V} (h : A m H = some (.ret v, m1, H1)) : S.seq A R m H = some (.ret v, m1, H1) := by unfold S.seq; rw [h]; rfl
theorem loc_upd {m m0 : Loc} {l : List String} {y : String} {v : V} (hy : y ∈ l) (h : ∀ z, z ∉ l → m z = m0 z) : ∀ z, z ∉ l → upd m y v z = m0 z := fun z hz => (upd_ne fun (e : z = y) => hz (e ▸ hy)).trans (h z hz)
theorem range_split {n i : Nat} {don rest : List Nat} (h : List.range n = don ++ i :: rest) : don = List.range i ∧ i < n := by
  have hi : (List.range n)[don.length]? = some i := by rw [h, List.getElem?_append_right (Nat.le_refl _), Nat.sub_self]; rfl
  obtain ⟨h3, h4⟩ := List.getElem?_eq_some_iff.mp hi
  rw [List.getElem_range] at h4
  rw [List.length_range] at h3
  subst h4
  have := congrArg (List.take don.length) h
  rw [List.take_range, Nat.min_eq_left (Nat.le_of_lt h3), List.take_left] at this
  exact ⟨this.symm, h3⟩
/-! loops -/
section
variable {α : Type} {enc : α → V} {still : Hp → Bool} {x : String} {body R : Sx} {m : Loc} {H H1 : Hp} {P : Fl × Loc × Hp → Prop} {e : Ex} {r : Nat}
theorem turns_list {l : List α} (I : List α → Loc → Hp → Prop) (i : I [] m H) (st : ∀ d m H, I d m H → still H = true)
    (step : ∀ d a t m H, l = d ++ a :: t → I d m H → Run (body (upd m x (enc a)) H) fun z => z.1 = .next ∧ I (d ++ [a]) z.2.1 z.2.2) : ∀ (d t : List α) (m : Loc) (H : Hp), l = d ++ t → I d m H → Run (S.turns still (S.b1 x) body (t.map enc) m H) fun z => z.1 = .next ∧ I l z.2.1 z.2.2 := by
  intro d t
  induction t generalizing d with
  | nil => exact fun m H e h => ⟨(.next, m, H), by unfold S.turns; rw [List.map_nil]; exact if_pos (st _ _ _ h), rfl, by rw [e, List.append_nil]; exact h⟩
  | cons a t ih =>
    intro m H e h
    obtain ⟨⟨fl, m2, H2⟩, e2, rfl, h2⟩ := step d a t m H e h
    rw [List.map_cons]
    refine .of ?_ (ih (d ++ [a]) m2 H2 (by rw [e, List.append_assoc]; rfl) h2)
    show (if still H = true then _ else _) = _
    rw [if_pos (st _ _ _ h)]
    show (body (upd m x (enc a)) H).bind _ = _
    rw [e2]; rfl
theorem Run.for_ {f : Sx} {l : List α} (I : List α → Loc → Hp → Prop) (hf : f m H = S.turns still (S.b1 x) body (l.map enc) m H1) (st : ∀ d m H, I d m H → still H = true) (i : I [] m H1)
    (step : ∀ d a t m H, l = d ++ a :: t → I d m H → Run (body (upd m x (enc a)) H) fun z => z.1 = .next ∧ I (d ++ [a]) z.2.1 z.2.2) (k : ∀ m H, I l m H → Run (R m H) P) : Run (S.seq f R m H) P := by
  obtain ⟨⟨fl, m2, H2⟩, e2, rfl, h2⟩ := turns_list I i st step [] l m H1 rfl i
  exact .of (s_one (hf.trans e2) rfl) (k m2 H2 h2)
theorem stillIs_ref {q : Nat} {vs : List V} {H : Hp} (h : H[q]? = some (.list vs)) : S.stillIs (.ref q) vs H = true := by
  simp only [S.stillIs, S.items, h]
  exact dec_eq_true_iff.mpr trivial
/-- for x in a list of the heap, which keeps -/
theorem Run.forL {l : List α} (I : List α → Loc → Hp → Prop) (he : e m H = some (.ref r, H1)) (hr : H1[r]? = some (.list (l.map enc))) (st : ∀ d m H, I d m H → H[r]? = some (.list (l.map enc))) (i : I [] m H1)
    (step : ∀ d a t m H, l = d ++ a :: t → I d m H → Run (body (upd m x (enc a)) H) fun z => z.1 = .next ∧ I (d ++ [a]) z.2.1 z.2.2) (k : ∀ m H, I l m H → Run (R m H) P) : Run (S.seq (S.forIn (S.b1 x) e body) R m H) P :=
  .for_ (still := S.stillIs (.ref r) (l.map enc)) I (by unfold S.forIn; rw [he]; simp only [Option.bind_some, S.items, hr]) (fun d m H h => stillIs_ref (st d m H h)) i step k
/-- for x in range(n) -/
theorem Run.forN {n : Nat} (I : List Nat → Loc → Hp → Prop) (hn : n < 100000) (he : e m H = some (.int n, H1)) (i : I [] m H1)
    (step : ∀ (d : List Nat) (a : Nat) (t : List Nat) m H, List.range n = d ++ a :: t → I d m H → Run (body (upd m x (.int a)) H) fun z => z.1 = .next ∧ I (d ++ [a]) z.2.1 z.2.2) (k : ∀ m H, I (List.range n) m H → Run (R m H) P) : Run (S.seq (S.forR1 (S.b1 x) e body) R m H) P :=
  .for_ (enc := fun a : Nat => .int a) (still := S.yes) I (by
    unfold S.forR1; rw [he]; simp only [Option.bind_some]; rw [if_pos (nat_sm hn (by decide) (by decide))]
    unfold E.rangeVs; rw [Int.sub_zero, Int.toNat_natCast]; simp only [Int.zero_add]) (fun _ _ _ _ => rfl) i step k
theorem rangeVs_from (a n : Nat) : E.rangeVs (a : Int) (n : Int) = (List.range (n - a)).map fun i : Nat => V.int ((a + i : Nat) : Int) := by
  unfold E.rangeVs
  rw [show ((n : Int) - a).toNat = n - a by omega]
  simp only [Int.natCast_add]
/-- for x in range(a, n) -/
theorem Run.forN2 {a n : Nat} {e2 : Ex} {H2 : Hp} (I : List Nat → Loc → Hp → Prop) (ha : a < 100000) (hn : n < 100000) (he : e m H = some (.int a, H1)) (he2 : e2 m H1 = some (.int n, H2)) (i : I [] m H2)
    (step : ∀ (d : List Nat) (j : Nat) (t : List Nat) m H, List.range (n - a) = d ++ j :: t → I d m H → Run (body (upd m x (.int ((a + j : Nat) : Int))) H) fun z => z.1 = .next ∧ I (d ++ [j]) z.2.1 z.2.2) (k : ∀ m H, I (List.range (n - a)) m H → Run (R m H) P) : Run (S.seq (S.forR2 (S.b1 x) e e2 body) R m H) P :=
  .for_ (enc := fun j : Nat => .int ((a + j : Nat) : Int)) (still := S.yes) I (by
    unfold S.forR2; rw [evs2 he he2]; simp only [Option.bind_some]; rw [if_pos ⟨nat_sm ha (by decide) (by decide), nat_sm hn (by decide) (by decide)⟩, rangeVs_from]) (fun _ _ _ _ => rfl) i step k
/-- for x in range(len(l)) -/
theorem Run.forI {l : List α} (I : List α → Loc → Hp → Prop) (hn : l.length < 100000) (he : e m H = some (.int l.length, H1)) (i : I [] m H1)
    (step : ∀ (d : List α) (a : α) (t : List α) m H, l = d ++ a :: t → I d m H → Run (body (upd m x (.int d.length)) H) fun z => z.1 = .next ∧ I (d ++ [a]) z.2.1 z.2.2) (k : ∀ m H, I l m H → Run (R m H) P) : Run (S.seq (S.forR1 (S.b1 x) e body) R m H) P :=
  .forN (fun d => I (l.take d.length)) hn he i (fun d j t m H h y => by
    obtain ⟨h1, h2⟩ := range_split h
    have hd : d.length = j := by rw [h1, List.length_range]
    have ht : (l.take j).length = j := List.length_take_of_le (Nat.le_of_lt h2)
    have := step (l.take j) l[j] (l.drop (j + 1)) m H (by rw [List.getElem_cons_drop, List.take_append_drop]) (hd ▸ y)
    rw [ht] at this
    rw [List.length_append, hd]
    show Run _ fun z => _ ∧ I (l.take (j + 1)) _ _
    rw [List.take_succ_eq_append_getElem h2]
    exact this) fun m H y => k m H (by rw [List.length_range, List.take_length] at y; exact y)
theorem map_at {α β : Type} {l d t : List α} {a : α} (h : l = d ++ a :: t) (f : α → β) : (l.map f)[d.length]? = some (f a) := by
  rw [h, List.map_append, List.getElem?_append_right (by rw [List.length_map]; exact Nat.le_refl _), List.length_map, Nat.sub_self]
  rfl
end
theorem flats_map {α : Type} {n : Nat} {f : α → V} (h : ∀ a, flatN n (f a) = true) (l : List α) : flatsN n (l.map f) = true := by
  induction l with
  | nil => cases n <;> rfl
  | cons a l ih =>
    have e : flatsN n ((a :: l).map f) = (flatN n (f a) && flatsN n (l.map f)) := by cases n <;> rfl
    rw [e, h, ih]; rfl
section
variable {m : Loc} {H H1 H2 : Hp} {a b o : Ex} {r j n : Nat} {vs : List V} {X Y : V} {s s' : String} {es : List Ex} {ss : List String} {p q : Bool}
theorem inV_strs : inV H (.str s) (.tup (ss.map .str)) = some (decide (s ∈ ss)) := by
  unfold inV
  dsimp only
  rw [if_pos ⟨rfl, flats_map (fun _ => rfl) ss⟩, ← dec_decide]
  exact congrArg some (dec_iff (dec_eq_true_iff.trans ⟨fun h => let ⟨_, h1, h2⟩ := List.mem_map.mp h; V.str.inj h2 ▸ h1, List.mem_map_of_mem⟩))
theorem t_ins (h : a m H = some (.str s, H)) (he : E.tup es m H = some (.tup (ss.map .str), H)) : T.cmp .In a (E.tup es) m H = some (decide (s ∈ ss), H) := t_cmp h he (inV_strs (H := H))
theorem e_index (ho : o m H = some (.ref r, H1)) (h0 : H1[r]? = some (.list vs)) (ha : a m H1 = some (X, H1)) (hf : flat X = true) (hv : flatsN 8 vs = true) (hi : ixOf X vs = some j) : E.lmeth E.opIndex o [a] m H = some (.int (j : Int), H1) := by
  unfold E.lmeth
  rw [ho, Option.bind_some]
  simp only [lst_ref h0, Option.bind_some, evs1 ha]
  refine (if_pos ⟨hf, hv⟩).trans ?_
  rw [hi]
  rfl
theorem ix_hit : ixOf X (X :: vs) = some 0 := if_pos (dec_eq_true_iff.mpr rfl)
theorem ix_miss (h : Y ≠ X) (e : ixOf X vs = some j) : ixOf X (Y :: vs) = some (j + 1) := (if_neg fun e => h (dec_eq_true_iff.mp e)).trans (by rw [e]; rfl)
theorem e_bor3 {c : Ex} {p q r : Bool} (h1 : a m H = some (.bool p, H)) (h2 : b m H = some (.bool q, H)) (h3 : c m H = some (.bool r, H)) : E.bor [a, b, c] m H = some (.bool (p || q || r), H) := by
  unfold E.bor
  rw [h1]
  cases p with
  | true => rfl
  | false =>
    show E.bor [b, c] m H = _
    unfold E.bor
    rw [h2]
    cases q with
    | true => rfl
    | false =>
      show E.bor [c] m H = _
      unfold E.bor
      rw [h3]; rfl
theorem e_cmp {op : CmpOp} (h : a m H = some (X, H1)) (h2 : b m H1 = some (Y, H2)) (hc : cmpV op H2 X Y = some p) : E.cmp op a b m H = some (.bool p, H2) := by unfold E.cmp; rw [h, Option.bind_some, h2, Option.bind_some, hc]; rfl
end
section
variable {H : Hp}
theorem matching_ok (a b : Key) (H : Hp) : P.matching [a.enc, b.enc] H = some (.bool (mat a b), H) := by
  have t := t_or2 (t_cmp (m := args ["key", "cell_key"] [a.enc, b.enc]) (H := H) (a := E.var "key") (b := E.const (.tup [.str "var"])) (op := .Eq) (e_var rfl) rfl (eqV_key_var a)) (t_cmp (a := E.var "cell_key") (b := E.const (.tup [.str "var"])) (op := .Eq) (e_var rfl) rfl (eqV_key_var b))
  unfold mat
  cases hp : decide (a = .var) || decide (b = .var) with
  | true => rw [hp] at t; exact fn_ret rfl (s_iffT t (s_assoc.trans (s_ret rfl)))
  | false => rw [hp] at t; exact fn_ret rfl (s_skip t (s_ret (e_cmp (e_var rfl) (e_var rfl) (eqV_key a b))))
theorem law_matches_ok (a b : Key) (H : Hp) : P.law_matches [a.enc, b.enc] H = some (.bool (mat a b), H) :=
  fn_ret rfl (s_ret (e_bor3 (e_cmp (e_var rfl) rfl (eqV_key_var a)) (e_cmp (e_var rfl) rfl (eqV_key_var b)) (e_cmp (e_var rfl) (e_var rfl) (eqV_key a b))))
theorem Row.get0 (H : Hp) (r : Row) : getI H r.enc (.int 0) = some (.str r.word) := by cases r <;> exact tup_get (n := 0) (by decide) rfl
noncomputable def Row.two : Row → Option Int
  | .lab l => some l
  | .try_ l _ => some l
  | .retry l => some l
  | .trust l => some l
  | _ => none
theorem Row.get1 {H : Hp} {r : Row} {l : Int} (h : r.two = some l) : getI H r.enc (.int 1) = some (.int l) := by
  cases r with
  | lab l => exact Option.some.inj h ▸ tup_get (n := 1) (by decide) rfl
  | try_ l a => exact Option.some.inj h ▸ tup_get (n := 1) (by decide) rfl
  | retry l => exact Option.some.inj h ▸ tup_get (n := 1) (by decide) rfl
  | trust l => exact Option.some.inj h ▸ tup_get (n := 1) (by decide) rfl
  | _ => cases h
theorem key_get0 (H : Hp) (k : Key) : getI H k.enc (.int 0) = some (.str k.kind.word) := by cases k <;> exact tup_get (n := 0) (by decide) rfl
theorem key_get1 {k : Key} (h : tabl k.kind) : getI H k.enc (.int 1) = some k.argV := by rw [enc_item1 h]; exact tup_get (n := 1) (by decide) rfl
theorem switch_target_ok (v c li s : Int) (key : Key) (H : Hp) : P.switch_target [(Row.swt v c li s).enc, key.enc] H = some (.int (sel key (.swt v c li s)), H) := by
  have t := fun s' => t_eqs (m := upd (args ["ins", "key"] [(Row.swt v c li s).enc, key.enc]) "kind" (.str key.kind.word)) (H := H) (s' := s') (e_var (x := "kind") upd_self)
  have g := fun (n : Nat) (x : V) (hn : n < 1000) (h : [V.str "switch_on_term", .int v, .int c, .int li, .int s][n]? = some x) => e_itemv (m := upd (args ["ins", "key"] [(Row.swt v c li s).enc, key.enc]) "kind" (.str key.kind.word)) (H := H) (x := "ins") rfl (tup_get hn h)
  have go : ∀ k : Kind, k = key.kind → P.switch_target_b (args ["ins", "key"] [(Row.swt v c li s).enc, key.enc]) H = some (.ret (.int (selT v c li s k)), upd (args ["ins", "key"] [(Row.swt v c li s).enc, key.enc]) "kind" (.str key.kind.word), H) := fun k hk => by
    refine (s_asg (e_itemv rfl (key_get0 H key)) rfl).trans ?_
    rw [← hk] at t g ⊢
    cases k with
    | co => exact s_iffT (t _) (s_assoc.trans (s_ret (g 2 _ (by decide) rfl)))
    | list => exact s_skip (t _) (s_iffT (t _) (s_assoc.trans (s_ret (g 3 _ (by decide) rfl))))
    | st => exact s_skip (t _) (s_skip (t _) (s_iffT (t _) (s_assoc.trans (s_ret (g 4 _ (by decide) rfl)))))
    | var => exact s_skip (t _) (s_skip (t _) (s_skip (t _) (s_ret (g 1 _ (by decide) rfl))))
  exact fn_ret rfl (go _ rfl)
/-- the first pair of a table that fits -/
theorem for_look {bind : V → Loc → Option Loc} {body R : Sx} {e : Ex} {m m2 : Loc} {key : Key} {d : Int} {ps : List (Key × Int)} (Q : Loc → Prop) (he : e m H = some (.tup (ps.map encP), H)) (hQ : Q m)
    (step : ∀ p ∈ ps, ∀ m, Q m → ∃ m1, bind (encP p) m = some m1 ∧ Q m1 ∧ body m1 H = some (if p.1 = key then .ret (.int p.2) else .next, m1, H)) (hR : ∀ m, Q m → R m H = some (.ret (.int d), m, H)) :
    ∃ m2, S.seq (S.forIn bind e body) R m H = some (.ret (.int (look key d ps)), m2, H) := by
  have go : ∀ (qs : List (Key × Int)) (m : Loc), (∀ p ∈ qs, p ∈ ps) → Q m → ∃ m2, Q m2 ∧ ((S.turns (S.stillIs (.tup (ps.map encP)) (ps.map encP)) bind body (qs.map encP) m H = some (.next, m2, H) ∧ look key d qs = d) ∨ S.turns (S.stillIs (.tup (ps.map encP)) (ps.map encP)) bind body (qs.map encP) m H = some (.ret (.int (look key d qs)), m2, H)) := by
    intro qs
    induction qs with
    | nil => exact fun m _ q => ⟨m, q, .inl ⟨if_pos (stillIs_tup _ _), rfl⟩⟩
    | cons p qs ih =>
      intro m hp q
      obtain ⟨m1, e1, q1, e2⟩ := step p (hp p (.head _)) m q
      have st : ∀ {w}, (bind (encP p) m).bind (fun m1 => (body m1 H).bind fun z => match z.1 with
        | .ret v => some (Fl.ret v, z.2.1, z.2.2)
        | _ => S.turns (S.stillIs (.tup (ps.map encP)) (ps.map encP)) bind body (qs.map encP) z.2.1 z.2.2) = w → S.turns (S.stillIs (.tup (ps.map encP)) (ps.map encP)) bind body ((p :: qs).map encP) m H = w := fun h => Eq.trans (if_pos (stillIs_tup _ _)) h
      by_cases h : p.1 = key
      · rw [if_pos h] at e2
        refine ⟨m1, q1, .inr (st ?_)⟩
        rw [e1, Option.bind_some, e2, show look key d (p :: qs) = p.2 from if_pos h]; rfl
      · rw [if_neg h] at e2
        rw [show look key d (p :: qs) = look key d qs from if_neg h]
        obtain ⟨m2, q2, hh⟩ := ih m1 (fun p hp' => hp p (.tail _ hp')) q1
        refine ⟨m2, q2, hh.imp (fun h => ⟨st ?_, h.2⟩) fun h => st ?_⟩
        · rw [e1, Option.bind_some, e2]; exact h.1
        · rw [e1, Option.bind_some, e2]; exact h
  obtain ⟨m2, q2, hh⟩ := go ps m (fun _ h => h) hQ
  have ef : ∀ {w}, S.turns (S.stillIs (.tup (ps.map encP)) (ps.map encP)) bind body (ps.map encP) m H = w → S.forIn bind e body m H = w := fun h => by unfold S.forIn; rw [he]; exact h
  rcases hh with ⟨h, h2⟩ | h
  · exact ⟨m2, (s_one (ef h) (hR m2 q2)).trans (by rw [h2])⟩
  · exact ⟨m2, s_stop (ef h)⟩
theorem look_body {t : Tx} {x : Ex} {m : Loc} {p : Key × Int} {key : Key} (ht : t m H = some (decide (p.1 = key), H)) (hx : x m H = some (.int p.2, H)) : S.seq (S.iff t (S.seq (S.ret x) S.nil) S.nil) S.nil m H = some (if p.1 = key then .ret (.int p.2) else .next, m, H) := by
  by_cases h : p.1 = key
  · rw [if_pos h]; rw [decide_eq_true h] at ht; exact s_iffT ht (s_assoc.trans (s_ret hx))
  · rw [if_neg h]; rw [decide_eq_false h] at ht; exact s_skip ht rfl
theorem table_target_ok {k : Kind} {ps : List (Key × Int)} {d : Int} {key : Key} (h : okTab key k ps) (H : Hp) : P.table_target [(Row.sw k ps d).enc, key.enc] H = some (.int (sel key (.sw k ps d)), H) := by
  obtain ⟨hk, ht, hp⟩ := h
  obtain ⟨m2, e⟩ := for_look (H := H) (bind := S.b1 "pair") (body := S.seq (S.iff (T.cmp .Eq (E.item (E.var "pair") (E.const (.int 0))) (E.item (E.var "key") (E.const (.int 1)))) (S.seq (S.ret (E.item (E.var "pair") (E.const (.int 1)))) S.nil) S.nil) S.nil) (R := S.seq (S.ret (E.item (E.var "ins") (E.const (.int 2)))) S.nil) (e := E.item (E.var "ins") (E.const (.int 1))) (m := args ["ins", "key"] [(Row.sw k ps d).enc, key.enc]) (key := key) (d := d) (ps := ps) (m2 := fun _ => none) (fun m => m "key" = some key.enc ∧ m "ins" = some (Row.sw k ps d).enc) (e_itemv rfl (tup_get (n := 1) (by decide) rfl)) ⟨rfl, rfl⟩
    (fun p h m q => ⟨upd m "pair" (encP p), rfl, ⟨(upd_ne (by decide)).trans q.1, (upd_ne (by decide)).trans q.2⟩, look_body (t_cmp (e_itemv upd_self (tup_get (n := 0) (by decide) rfl)) (e_itemv ((upd_ne (by decide)).trans q.1) (key_get1 (hk ▸ ht))) (eqV_arg ((hp p h).trans hk.symm) (hk ▸ ht))) (e_itemv upd_self (tup_get (n := 1) (by decide) rfl))⟩)
    (fun m q => s_ret (e_itemv q.2 (tup_get (n := 2) (by decide) rfl)))
  exact fn_ret rfl e
noncomputable def lt0 : Tx := T.cmp .Eq (E.item (E.var "ins") (E.const (.int 0))) (E.const (.str "switch_on_term"))
theorem lt_0 {row : Row} {key : Key} : lt0 (args ["ins", "key"] [row.enc, key.enc]) H = some (decide (row.word = "switch_on_term"), H) := t_eqs (e_itemv rfl (Row.get0 H row))
theorem lt_1 {row : Row} {key : Key} : T.cmp .In (E.item (E.var "ins") (E.const (.int 0))) (E.tup [E.const (.str "switch_on_constant"), E.const (.str "switch_on_structure")]) (args ["ins", "key"] [row.enc, key.enc]) H = some (decide (row.word ∈ ["switch_on_constant", "switch_on_structure"]), H) := t_ins (ss := ["switch_on_constant", "switch_on_structure"]) (e_itemv rfl (Row.get0 H row)) rfl
theorem sw_word (k : Kind) (ps : List (Key × Int)) (d : Int) : (Row.sw k ps d).word = "switch_on_constant" ∨ (Row.sw k ps d).word = "switch_on_structure" := by
  by_cases h : k = .co
  · exact .inl (if_pos h)
  · exact .inr (if_neg h)
theorem law_target_tab {k : Kind} {ps : List (Key × Int)} {d : Int} {key : Key} (h : okTab key k ps) (H : Hp) : P.law_target [(Row.sw k ps d).enc, key.enc] H = some (.int (sel key (.sw k ps d)), H) := by
  obtain ⟨hk, ht, hp⟩ := h
  have t0 := lt_0 (H := H) (row := .sw k ps d) (key := key)
  have t1 := lt_1 (H := H) (row := .sw k ps d) (key := key)
  have hw := sw_word k ps d
  rw [decide_eq_false (by rcases hw with h | h <;> rw [h] <;> decide)] at t0
  rw [decide_eq_true (by rcases hw with h | h <;> rw [h] <;> decide)] at t1
  obtain ⟨m2, e⟩ := for_look (H := H) (bind := S.b2 "word" "label") (body := S.seq (S.iff (T.cmp .Eq (E.var "word") (E.item (E.var "key") (E.const (.int 1)))) (S.seq (S.ret (E.var "label")) S.nil) S.nil) S.nil) (R := S.seq (S.ret (E.item (E.var "ins") (E.const (.int 2)))) S.nil) (e := E.item (E.var "ins") (E.const (.int 1))) (m := args ["ins", "key"] [(Row.sw k ps d).enc, key.enc]) (key := key) (d := d) (ps := ps) (m2 := fun _ => none) (fun m => m "key" = some key.enc ∧ m "ins" = some (Row.sw k ps d).enc) (e_itemv rfl (tup_get (n := 1) (by decide) rfl)) ⟨rfl, rfl⟩
    (fun p h m q => ⟨upd (upd m "word" p.1.argV) "label" (.int p.2), rfl, ⟨(upd_ne (by decide)).trans ((upd_ne (by decide)).trans q.1), (upd_ne (by decide)).trans ((upd_ne (by decide)).trans q.2)⟩, look_body (t_cmp (e_var rfl) (e_itemv ((upd_ne (by decide)).trans ((upd_ne (by decide)).trans q.1)) (key_get1 (hk ▸ ht))) (eqV_arg ((hp p h).trans hk.symm) (hk ▸ ht))) (e_var upd_self)⟩)
    (fun m q => s_ret (e_itemv q.2 (tup_get (n := 2) (by decide) rfl)))
  exact fn_ret rfl (s_skip t0 (s_iffT t1 (s_stop e)))
noncomputable def words : List V := [.str "var", .str "const", .str "list", .str "struct"]
noncomputable def Kind.ix : Kind → Nat
  | .var => 0
  | .co => 1
  | .list => 2
  | .st => 3
theorem str_ne {s s' : String} (h : s ≠ s') : V.str s ≠ V.str s' := fun e => h (V.str.inj e)
theorem ix_word (k : Kind) : ixOf (.str k.word) words = some k.ix := by
  cases k with
  | var => exact ix_hit
  | co => exact ix_miss (str_ne (by decide)) ix_hit
  | list => exact ix_miss (str_ne (by decide)) (ix_miss (str_ne (by decide)) ix_hit)
  | st => exact ix_miss (str_ne (by decide)) (ix_miss (str_ne (by decide)) (ix_miss (str_ne (by decide)) ix_hit))
theorem law_target_term (v c li s : Int) (key : Key) (H : Hp) : P.law_target [(Row.swt v c li s).enc, key.enc] H = some (.int (sel key (.swt v c li s)), H ++ [.list words]) := by
  have hx : [V.str "switch_on_term", .int v, .int c, .int li, .int s][1 + key.kind.ix]? = some (.int (sel key (.swt v c li s))) := by
    show _ = some (V.int (selT v c li s key.kind))
    cases key.kind <;> rfl
  have hk : 1 + key.kind.ix < 1000 := by cases key.kind <;> decide
  exact fn_ret rfl (s_iffT (lt_0 (row := .swt v c li s)) (s_assoc.trans (s_ret (e_item (e_var rfl) ((e_add (i1 := 1) rfl (e_index (e_list (evsC rfl (evs3 rfl rfl rfl))) (List.getElem?_concat_length ..) (e_itemv rfl (key_get0 _ key)) rfl rfl (ix_word key.kind))).trans (by rw [← Int.natCast_one, ← Int.natCast_add]; rfl)) (tup_get hk hx)))))
theorem law_target_one {row : Row} {l : Int} {key : Key} (h : row.two = some l) (hs : l = sel key row) (h0 : row.word ≠ "switch_on_term") (h1 : row.word ∉ ["switch_on_constant", "switch_on_structure"]) (H : Hp) : P.law_target [row.enc, key.enc] H = some (.int (sel key row), H) := by
  have t0 := lt_0 (H := H) (row := row) (key := key)
  have t1 := lt_1 (H := H) (row := row) (key := key)
  rw [decide_eq_false h0] at t0
  rw [decide_eq_false h1] at t1
  exact fn_ret rfl (s_skip t0 (s_skip t1 (s_ret ((e_itemv rfl (Row.get1 h)).trans (by rw [hs])))))
end
noncomputable def ExtB (S : List Nat) (H H' : Hp) : Prop := (∀ i o, i ∉ S → H[i]? = some o → H'[i]? = some o) ∧ H.length ≤ H'.length
noncomputable abbrev Ext (H H' : Hp) : Prop := ExtB [] H H'
section
variable {S S' : List Nat} {H H' H'' : Hp} {o : O} {i r : Nat}
theorem ExtB.refl : ExtB S H H := ⟨fun _ _ _ e => e, Nat.le_refl _⟩
theorem ExtB.trans (x : ExtB S H H') (y : ExtB S H' H'') : ExtB S H H'' := ⟨fun i o h e => y.1 i o h (x.1 i o h e), Nat.le_trans x.2 y.2⟩
theorem ExtB.push : ExtB S H (H ++ [o]) := ⟨fun i o _ e => by rw [List.getElem?_append_left (List.getElem?_eq_some_iff.mp e).1, e], by simp⟩
theorem ExtB.app {R : Hp} : ExtB S H (H ++ R) := ⟨fun i o _ e => by rw [List.getElem?_append_left (List.getElem?_eq_some_iff.mp e).1, e], by simp⟩
theorem ExtB.set (h : r ∈ S) : ExtB S H (H.set r o) := ⟨fun i o' hi e => by rw [List.getElem?_set_ne (fun (q : r = i) => hi (by rw [← q]; exact h)), e], by simp⟩
theorem ExtB.get (x : ExtB S H H') (h : i ∉ S) (e : H[i]? = some o) : H'[i]? = some o := x.1 i o h e
theorem ExtB.weak (x : ExtB S H H') (h : ∀ s ∈ S, s ∈ S' ∨ H.length ≤ s) : ExtB S' H H' := ⟨fun i o hi e => x.1 i o (fun hs => by
  rcases h i hs with q | q
  · exact hi q
  · exact absurd (List.getElem?_eq_some_iff.mp e).1 (by omega)) e, x.2⟩
theorem ExtB.fresh (x : ExtB (r :: S) H H') (h : H.length ≤ r) : ExtB S H H' := x.weak fun s hs => by
  rcases List.mem_cons.mp hs with rfl | hs
  · exact .inr h
  · exact .inl hs
theorem Ext.any (x : Ext H H') : ExtB S H H' := x.weak fun _ h => nomatch h
theorem Ext.get (x : Ext H H') (e : H[i]? = some o) : H'[i]? = some o := x.1 i o (fun h => nomatch h) e
@[simp] theorem get_new : (H ++ [o])[H.length]? = some o := by simp
theorem get_set {o' : O} (e : H[i]? = some o') : (H.set i o)[i]? = some o := List.getElem?_set_self (List.getElem?_eq_some_iff.mp e).1
theorem lt_of {o : O} (e : H[i]? = some o) : i < H.length := (List.getElem?_eq_some_iff.mp e).1
end
noncomputable def nats (ps : List Nat) : List V := ps.map fun (j : Nat) => V.int (j : Int)
@[simp] theorem nats_len (ps : List Nat) : (nats ps).length = ps.length := by simp [nats]
@[simp] theorem nats_nil : nats [] = [] := rfl
@[simp] theorem nats_cons (p : Nat) (ps : List Nat) : nats (p :: ps) = .int p :: nats ps := rfl
theorem nats_append (a b : List Nat) : nats (a ++ b) = nats a ++ nats b := by simp [nats]
theorem rangeVs_nats (n : Nat) : E.rangeVs 0 (n : Int) = nats (List.range n) := by simp [E.rangeVs, nats]
theorem nats_flat {n : Nat} (ps : List Nat) : flatsN n (nats ps) = true := by
  induction ps with
  | nil => cases n <;> rfl
  | cons p ps ih => cases n <;> simp_all [flatsN, flatN]
structure CodeAt (H : Hp) (j r : Nat) (k : Key) : Prop where
  inst : ∃ fs q, H[r]? = some (.inst C_ClauseCode fs) ∧ fs.lookup "key" = some k.enc ∧ fs.lookup "instrs" = some (.ref q) ∧ H[q]? = some (.list [(Row.getc j).enc, Row.proceed.enc])
noncomputable def Codes (H : Hp) (c : Nat) (keys : List Key) : Prop := ∃ refs : List Nat, H[c]? = some (.list (refs.map .ref)) ∧ refs.length = keys.length ∧ ∀ j k, keys[j]? = some k → ∃ r, refs[j]? = some r ∧ CodeAt H j r k
theorem CodeAt.ext {H H' : Hp} {j r : Nat} {k : Key} (x : CodeAt H j r k) (e : Ext H H') : CodeAt H' j r k := by
  obtain ⟨fs, q, h1, h2, h3, h4⟩ := x.inst
  exact ⟨fs, q, e.get h1, h2, h3, e.get h4⟩
theorem Codes.ext {H H' : Hp} {c : Nat} {keys : List Key} (x : Codes H c keys) (e : Ext H H') : Codes H' c keys := by
  obtain ⟨refs, h1, h2, h3⟩ := x
  exact ⟨refs, e.get h1, h2, fun j k hk => let ⟨r, a, b⟩ := h3 j k hk; ⟨r, a, b.ext e⟩⟩
/-- the places whose key can match -/
noncomputable def mpl (keys : List Key) (ps : List Nat) (key : Key) : List Nat := ps.filter fun j => (keys[j]?).any (mat · key)
noncomputable def cand (keys : List Key) (key : Key) : List Nat := mpl keys (List.range keys.length) key
theorem codes_len {H : Hp} {c : Nat} {keys : List Key} (x : Codes H c keys) : ∃ refs : List Nat, H[c]? = some (.list (refs.map .ref)) ∧ refs.length = keys.length := let ⟨r, a, b, _⟩ := x; ⟨r, a, b⟩
structure NewL (H : Hp) (vs : List V) (q : Nat) (H2 : Hp) : Prop where
  ext : Ext H H2
  list : H2[q]? = some (.list vs)
  new : H.length ≤ q
theorem codes_at {H : Hp} {c j : Nat} {keys : List Key} {k : Key} (x : Codes H c keys) (e : keys[j]? = some k) : ∃ r, getI H (.ref c) (.int j) = some (.ref r) ∧ CodeAt H j r k := by
  obtain ⟨refs, h1, h2, h3⟩ := x
  obtain ⟨r, a, b⟩ := h3 j k e
  exact ⟨r, list_get h1 (by rw [List.getElem?_map, a]; rfl), b⟩
/-- codes[j].key -/
theorem e_key {H : Hp} {m : Loc} {o i : Ex} {c j : Nat} {keys : List Key} {k : Key} (x : Codes H c keys) (e : keys[j]? = some k) (ho : o m H = some (.ref c, H)) (hi : i m H = some (.int j, H)) : E.attr C_ClauseCode "key" (E.item o i) m H = some (k.enc, H) := by
  obtain ⟨r, g, b⟩ := codes_at x e
  obtain ⟨fs, q, h1, h2, h3, h4⟩ := b.inst
  exact e_attr (e_item ho hi g) h1 h2
theorem e_codes {H : Hp} {m : Loc} {o : Ex} {c : Nat} {keys : List Key} (x : Codes H c keys) (ho : o m H = some (.ref c, H)) : E.len o m H = some (.int keys.length, H) := by
  obtain ⟨refs, h1, h2⟩ := codes_len x
  exact (e_len ho h1).trans (by rw [List.length_map, h2])
/-- a list of those places that pass a test -/
structure FI (m0 : Loc) (q : Nat) (H0 : Hp) (p : Nat → Bool) (d : List Nat) (m : Loc) (H : Hp) : Prop where
  loc : ∀ z, z ≠ "place" → m z = m0 z
  list : H[q]? = some (.list (nats (d.filter p)))
  ext : ExtB [q] H0 H
theorem FI.step {m0 : Loc} {y : String} {q j : Nat} {H0 : Hp} {p : Nat → Bool} {d : List Nat} {m : Loc} {H : Hp} {t : Tx} (x : FI m0 q H0 p d m H) (hy : m0 y = some (.ref q)) (hn : y ≠ "place") (hd : d.length < 100000) (ht : t (upd m "place" (.int j)) H = some (p j, H)) :
    Run (S.seq (S.iff t (S.seq (S.expr (E.lmeth E.opAppend (E.var y) [E.var "place"])) S.nil) S.nil) S.nil (upd m "place" (.int j)) H) fun z => z.1 = .next ∧ FI m0 q H0 p (d ++ [j]) z.2.1 z.2.2 := by
  have hl : ∀ z, z ≠ "place" → upd m "place" (.int j) z = m0 z := fun z h => (upd_ne h).trans (x.loc z h)
  have e : d.filter p ++ [j].filter p = (d ++ [j]).filter p := (List.filter_append ..).symm
  refine Run.iff ht (fun h => ?_) fun h => ?_
  · rw [List.filter_cons_of_pos h] at e
    refine ⟨_, s_assoc.trans (s_expr (e_app (e_var ((hl y hn).trans hy)) x.list (e_var upd_self) x.list (lt_big (Nat.lt_of_le_of_lt (by rw [nats_len]; exact List.length_filter_le _ _) hd))) rfl), rfl, hl, ?_, x.ext.trans (.set (.head _))⟩
    rw [get_set x.list, ← e, nats_append]; rfl
  · rw [List.filter_cons_of_neg (by rw [h]; decide), List.filter_nil, List.append_nil] at e
    exact ⟨_, rfl, rfl, hl, by rw [← e]; exact x.list, x.ext⟩
theorem mpl_at {keys : List Key} {j : Nat} {k key : Key} (e : keys[j]? = some k) : mat k key = (keys[j]?).any (mat · key) := by rw [e]; rfl
theorem range_mem {n a : Nat} {d t : List Nat} (h : List.range n = d ++ a :: t) : a < n ∧ d.length < n :=
  ⟨List.mem_range.mp (h ▸ List.mem_append_right _ (.head _)), by rw [← List.length_range (n := n), h, List.length_append]; exact Nat.lt_add_of_pos_right (Nat.succ_pos _)⟩
theorem candidates_ok {H : Hp} {c : Nat} {keys : List Key} {key : Key} (hc : Codes H c keys) (hn : keys.length < 100) : RunR (P.candidates [.ref c, key.enc] H) (NewL H (nats (cand keys key))) := by
  refine RunR_fn rfl (.of (s_asg e_list0 rfl) ?_)
  refine Run.forN (FI (upd (args ["codes", "cell_key"] [.ref c, key.enc]) "places" (.ref H.length)) H.length H fun j => (keys[j]?).any (mat · key)) (Nat.lt_trans hn (by decide)) (e_codes (hc.ext .push) (e_var rfl)) ⟨fun _ _ => rfl, get_new, .push⟩ (fun d j t m H' h x => ?_) fun m H' x => ?_
  · obtain ⟨h1, h2⟩ := range_mem h
    have hl : ∀ z, z ≠ "place" → upd m "place" (.int j) z = _ := fun z h => (upd_ne h).trans (x.loc z h)
    have hk := List.getElem?_eq_getElem h1
    refine x.step rfl (by decide) (Nat.lt_trans h2 (Nat.lt_trans hn (by decide))) (e_t (e_call2 (e_key (hc.ext (x.ext.fresh (Nat.le_refl _))) hk (e_var (hl _ (by decide))) (e_var upd_self)) (e_var (hl _ (by decide))) ?_))
    rw [matching_ok, mpl_at hk]
  · exact Run.ret (e_var (x.loc _ (by decide))) ⟨H.length, rfl, x.ext.fresh (Nat.le_refl _), x.list, Nat.le_refl _⟩
noncomputable def zs (ps : List Nat) : List Int := ps.map fun (j : Nat) => (j : Int)
theorem zs_inj {a b : List Nat} (h : zs a = zs b) : a = b := by
  induction a generalizing b with
  | nil => cases b with | nil => rfl | cons _ _ => cases h
  | cons x a ih =>
    cases b with
    | nil => cases h
    | cons y b =>
      simp only [zs, List.map_cons, List.cons.injEq] at h
      rw [Int.ofNat_inj.mp h.1, ih h.2]
theorem nats_zs (ps : List Nat) : nats ps = (zs ps).map .int := by simp [nats, zs]
@[simp] theorem intsOf_nats (ps : List Nat) : intsOf (nats ps) = zs ps := by
  induction ps with
  | nil => rfl
  | cons p ps ih => simp [intsOf, ih, zs]
@[simp] theorem allInts_nats (ps : List Nat) : allInts (nats ps) = true := by
  induction ps with
  | nil => rfl
  | cons p ps ih => simp [allInts, ih]
theorem keyOf_bind {α : Type} (ps : List Nat) (g : List Int → Option α) : (keyOf (nats ps)).bind g = g (zs ps) := by
  have e : keyOf (nats ps) = some (zs ps) := (if_pos (allInts_nats ps)).trans (by rw [intsOf_nats])
  rw [e]; rfl
structure Bst where
  rows : List Row
  chains : List (Int × List Nat)
  next : Int
noncomputable def encC (c : Int × List Nat) : V := .tup [.int c.1, .tup (nats c.2)]
noncomputable def KnOk (D : Dct) (chains : List (Int × List Nat)) : Prop := (chains = [] ∧ D = .emp) ∨ ∃ f, D = .T f chains.length ∧ ∀ l, f l = (chains.find? fun c => decide (zs c.2 = l)).map fun c => .int c.1
/-- a builder's places -/
structure BX where
  H0 : Hp
  (b r ch kn : Nat)
  a : Int
  c : Nat
  keys : List Key
noncomputable def BX.own (X : BX) : List Nat := [X.b, X.r, X.ch, X.kn]
structure BX.Ok (X : BX) : Prop where
  codes : Codes X.H0 X.c X.keys
  ge : ∀ s ∈ X.own, X.H0.length ≤ s
  nd : (X.b ≠ X.r ∧ X.b ≠ X.ch ∧ X.b ≠ X.kn) ∧ (X.r ≠ X.ch ∧ X.r ≠ X.kn) ∧ X.ch ≠ X.kn
  few : X.keys.length < 100
noncomputable def BX.fs (X : BX) (n : Int) : List (String × V) := [("arity", .int X.a), ("codes", .ref X.c), ("rows", .ref X.r), ("chains", .ref X.ch), ("known", .ref X.kn), ("next_label", .int n)]
structure Bld (X : BX) (H : Hp) (st : Bst) : Prop where
  ok : X.Ok
  ext : Ext X.H0 H
  obj : H[X.b]? = some (.inst C_BlockBuilder (X.fs st.next))
  rows : H[X.r]? = some (.list (st.rows.map Row.enc))
  chains : H[X.ch]? = some (.list (st.chains.map encC))
  known : ∃ D, H[X.kn]? = some (.dict D) ∧ KnOk D st.chains
/-- a step of a builder -/
structure To (X : BX) (H : Hp) (st : Bst) (H2 : Hp) : Prop where
  b : Bld X H2 st
  e : ExtB X.own H H2
section
variable {X : BX} {H H1 H2 : Hp} {st st1 st2 : Bst} {m : Loc} {o e : Ex}
theorem Ext.over {S : List Nat} {H0 : Hp} (x : Ext H0 H) (y : ExtB S H H1) (h : ∀ s ∈ S, H0.length ≤ s) : Ext H0 H1 :=
  ⟨fun i o _ e => y.1 i o (fun hs => absurd (lt_of e) (Nat.not_lt.mpr (h i hs))) (x.get e), Nat.le_trans x.2 y.2⟩
theorem Bld.codes (x : Bld X H st) : Codes H X.c X.keys := x.ok.codes.ext x.ext
theorem Bld.same (x : Bld X H st) (y : Ext H H1) : Bld X H1 st := ⟨x.ok, x.ext.trans y, y.get x.obj, y.get x.rows, y.get x.chains, let ⟨D, h, k⟩ := x.known; ⟨D, y.get h, k⟩⟩
theorem To.trans (x : To X H st1 H1) (y : To X H1 st2 H2) : To X H st2 H2 := ⟨y.b, x.e.trans y.e⟩
theorem To.same (x : To X H st1 H1) (y : Ext H1 H2) : To X H st1 H2 := ⟨x.b.same y, x.e.trans y.any⟩
theorem Bld.to (x : Bld X H st) (y : Ext H H1) : To X H st H1 := ⟨x.same y, y.any⟩
theorem own_b : X.b ∈ X.own := .head _
theorem own_r : X.r ∈ X.own := .tail _ (.head _)
theorem own_ch : X.ch ∈ X.own := .tail _ (.tail _ (.head _))
theorem own_kn : X.kn ∈ X.own := .tail _ (.tail _ (.tail _ (.head _)))
/-- the rows grow -/
theorem Bld.addRow (x : Bld X H st) (row : Row) : To X H { st with rows := st.rows ++ [row] } (H.set X.r (.list (st.rows.map Row.enc ++ [row.enc]))) :=
  have e : ExtB X.own H (H.set X.r (.list (st.rows.map Row.enc ++ [row.enc]))) := .set own_r
  have nd := x.ok.nd
  ⟨⟨x.ok, x.ext.over e x.ok.ge, (List.getElem?_set_ne (Ne.symm nd.1.1)).trans x.obj, (get_set x.rows).trans (by rw [List.map_append]; rfl), (List.getElem?_set_ne nd.2.1.1).trans x.chains, let ⟨D, h, k⟩ := x.known; ⟨D, (List.getElem?_set_ne nd.2.1.2).trans h, k⟩⟩, e⟩
theorem Bld.attr {f : String} {v : V} (x : Bld X H st) (ho : o m H = some (.ref X.b, H)) (hf : (X.fs st.next).lookup f = some v) : E.attr C_BlockBuilder f o m H = some (v, H) := e_attr ho x.obj hf
/-- rows.append(row) -/
theorem Bld.push {row : Row} (x : Bld X H st) (y : To X H st1 H1) (ho : o m H = some (.ref X.b, H)) (he : e m H = some (row.enc, H1)) (hz : st1.rows.length < 100000) :
    RunV (E.lmeth E.opAppend (E.attr C_BlockBuilder "rows" o) [e] m H) .none (To X H { st1 with rows := st1.rows ++ [row] }) :=
  ⟨_, e_app (x.attr ho rfl) x.rows he y.b.rows (lt_big (by rw [List.length_map]; exact hz)), y.trans (y.b.addRow row)⟩
theorem Bld.pushS {row : Row} {R : Sx} {P : Fl × Loc × Hp → Prop} (x : Bld X H st) (y : To X H st1 H1) (ho : o m H = some (.ref X.b, H)) (he : e m H = some (row.enc, H1)) (hz : st1.rows.length < 100000) (k : ∀ H2, To X H { st1 with rows := st1.rows ++ [row] } H2 → Run (R m H2) P) :
    Run (S.seq (S.expr (E.lmeth E.opAppend (E.attr C_BlockBuilder "rows" o) [e])) R m H) P := (x.push y ho he hz).use fun H2 e y => .of (s_expr e rfl) (k H2 y)
theorem To.refl (x : Bld X H st) : To X H st H := ⟨x, .refl⟩
end
/-! chain_rows -/
noncomputable def chTail : List Int → List Row
  | [] => []
  | [l] => [.trust l]
  | l :: l' :: r => .retry l :: chTail (l' :: r)
noncomputable def chainRows (a : Int) : List Int → List Row
  | [] => []
  | l :: r => .try_ l a :: chTail r
theorem chTail_snoc : ∀ (r : List Int) (l : Int), chTail (r ++ [l]) = r.map .retry ++ [.trust l]
  | [], _ => rfl
  | [_], _ => rfl
  | x :: y :: r, l => congrArg (Row.retry x :: ·) (chTail_snoc (y :: r) l)
noncomputable def Sq (H : Hp) (v : V) (vs : List V) : Prop := v = .tup vs ∨ ∃ q, v = .ref q ∧ H[q]? = some (.list vs)
theorem Sq.ext {H H' : Hp} {v : V} {vs : List V} (x : Sq H v vs) (e : Ext H H') : Sq H' v vs := x.imp id fun ⟨q, a, b⟩ => ⟨q, a, e.get b⟩
theorem Sq.len {H : Hp} {v : V} {vs : List V} (x : Sq H v vs) (h : vs.length < 1000) {e : Ex} {m : Loc} {H1 : Hp} (he : e m H1 = some (v, H)) : E.len e m H1 = some (.int vs.length, H) := by
  rcases x with rfl | ⟨q, rfl, b⟩
  · exact e_lent he (Nat.lt_trans h (by decide))
  · exact e_len he b
theorem Sq.at {H : Hp} {v : V} {ls : List Int} (x : Sq H v (ls.map .int)) {j : Nat} {l : Int} (h : ls.length < 1000) (e : ls[j]? = some l) : getI H v (.int j) = some (.int l) := by
  have e2 : (ls.map V.int)[j]? = some (.int l) := by rw [List.getElem?_map, e]; rfl
  rcases x with rfl | ⟨q, rfl, b⟩
  · exact tup_get (Nat.lt_trans (List.getElem?_eq_some_iff.mp e).1 h) e2
  · exact list_get b e2
/-- chain_rows in the middle of its loop -/
structure CI (m0 : Loc) (H : Hp) (a l0 : Int) (r : List Int) (d : List Nat) (m : Loc) (H2 : Hp) : Prop where
  loc : ∀ z, z ≠ "place" → m z = m0 z
  list : H2[H.length]? = some (.list ((.try_ l0 a :: (r.take d.length).map Row.retry).map Row.enc))
  ext : ExtB [H.length] H H2
theorem chain_rows_ok {X : BX} {st : Bst} {H : Hp} {Lv : V} {l0 l1 : Int} {r : List Int} (x : Bld X H st) (hs : Sq H Lv ((l0 :: (r ++ [l1])).map .int)) (h3 : (l0 :: (r ++ [l1])).length < 500) :
    RunR (P.BlockBuilder_chain_rows [.ref X.b, Lv] H) (NewL H ((chainRows X.a (l0 :: (r ++ [l1]))).map Row.enc)) := by
  have h9 : (l0 :: (r ++ [l1])).length < 1000 := Nat.lt_trans h3 (by decide)
  have hl : (l0 :: (r ++ [l1])).length = r.length + 2 := by rw [List.length_cons, List.length_append]; rfl
  have hr : r.length < 100000 := by omega
  refine RunR_fn rfl (.of (s_asg (e_list (evs1 (e_tup (evs3 (Y := .int l0) rfl (e_item0 (e_var rfl) (hs.at (j := 0) h9 rfl)) (x.attr (e_var rfl) rfl))))) rfl) ?_)
  have e1 : Ext H (H ++ [.list [(Row.try_ l0 X.a).enc]]) := .push
  have g1 : (H ++ [O.list [(Row.try_ l0 X.a).enc]])[H.length]? = some (.list [(Row.try_ l0 X.a).enc]) := get_new
  have k1 : ((r.length + 2 : Nat) : Int) - 1 = ((r.length + 1 : Nat) : Int) := by omega
  have le := ((hs.ext e1).len (by rw [List.length_map]; exact h9) (e := E.var "labels") (e_var (m := upd (args ["self", "labels"] [.ref X.b, Lv]) "rows" (.ref H.length)) rfl)).trans (by rw [List.length_map, hl])
  refine Run.of (s_asg ((e_sub (i2 := 1) le rfl).trans (by rw [k1])) rfl) ?_
  change Run (S.seq _ _ _ (H ++ [.list [(Row.try_ l0 X.a).enc]])) _
  generalize H ++ [O.list [(Row.try_ l0 X.a).enc]] = A at *
  obtain ⟨m0, hm⟩ : ∃ m0, m0 = upd (upd (args ["self", "labels"] [.ref X.b, Lv]) "rows" (.ref H.length)) "last" (.int ((r.length + 1 : Nat) : Int)) := ⟨_, rfl⟩
  have ml : m0 "labels" = some Lv := hm ▸ rfl
  have mr : m0 "rows" = some (.ref H.length) := hm ▸ rfl
  have ma : m0 "last" = some (.int ((r.length + 1 : Nat) : Int)) := hm ▸ rfl
  rw [← hm]
  clear hm
  have put : ∀ {j : Nat} {l : Int} {m : Loc} {H2 : Hp} {y w : String} {vs : List V}, m "labels" = some Lv → m "rows" = some (.ref H.length) → m y = some (.int j) → Ext H H2 → H2[H.length]? = some (.list vs) → vs.length < 100000 → (l0 :: (r ++ [l1]))[j]? = some l →
      E.lmeth E.opAppend (E.var "rows") [E.tup [E.const (.str w), E.item (E.var "labels") (E.var y)]] m H2 = some (.none, H2.set H.length (.list (vs ++ [.tup [.str w, .int l]]))) :=
    fun h1 h2 h4 e h5 h6 h7 => e_app (e_var h2) h5 (e_tup (evs2 rfl (e_item (e_var h1) (e_var h4) ((hs.ext e).at h9 h7)))) h5 (lt_big h6)
  refine Run.forN2 (a := 1) (n := r.length + 1) (CI m0 H X.a l0 r) (by decide) (by omega) rfl (e_var ma) ⟨fun _ _ => rfl, g1, e1.any⟩ (fun d i t m H2 h y => ?_) fun m H2 y => ?_
  · obtain ⟨h1, h2⟩ := range_split h
    have hd : d.length = i := by rw [h1, List.length_range]
    have hi : (l0 :: (r ++ [l1]))[1 + i]? = some r[i] := by rw [Nat.add_comm, List.getElem?_cons_succ, List.getElem?_append_left h2, List.getElem?_eq_getElem h2]
    refine ⟨_, s_expr (put ((upd_ne (by decide)).trans ((y.loc _ (by decide)).trans ml)) ((upd_ne (by decide)).trans ((y.loc _ (by decide)).trans mr)) upd_self (y.ext.fresh (Nat.le_refl _)) y.list ?_ hi) rfl, rfl, fun z hz => (upd_ne hz).trans (y.loc z hz), ?_, y.ext.trans (.set (.head _))⟩
    · rw [List.length_map, List.length_cons, List.length_map]; exact Nat.lt_of_le_of_lt (Nat.succ_le_succ (List.length_take_le' _ _)) (by omega)
    · rw [get_set y.list, List.length_append, hd]
      show _ = some (O.list (List.map Row.enc (_ :: List.map Row.retry (List.take (i + 1) r))))
      rw [List.take_succ_eq_append_getElem h2, List.map_append, ← List.cons_append, List.map_append]
      rfl
  · have hlist := y.list
    rw [List.length_range, Nat.add_sub_cancel, List.take_length] at hlist
    have hi : (l0 :: (r ++ [l1]))[r.length + 1]? = some l1 := by rw [List.getElem?_cons_succ, List.getElem?_concat_length]
    refine Run.of (s_expr (put ((y.loc _ (by decide)).trans ml) ((y.loc _ (by decide)).trans mr) ((y.loc _ (by decide)).trans ma) (y.ext.fresh (Nat.le_refl _)) hlist (by rw [List.length_map, List.length_cons, List.length_map]; omega) hi) rfl) ?_
    refine Run.ret (e_var ((y.loc _ (by decide)).trans mr)) ⟨H.length, rfl, (y.ext.trans (.set (.head _))).fresh (Nat.le_refl _), ?_, Nat.le_refl _⟩
    rw [get_set hlist, chainRows, chTail_snoc, ← List.cons_append, List.map_append]
    rfl
section
variable {X : BX} {H H1 H2 : Hp} {st : Bst}
theorem fresh_label_ok (x : Bld X H st) : RunV (P.BlockBuilder_fresh_label [.ref X.b] H) (.int st.next) (To X H { st with next := st.next + 1 }) := by
  refine RunV_fn rfl (.of (s_asg (x.attr (e_var rfl) rfl) (s_one (s_attr (e_add (i2 := 1) (e_var upd_self) rfl) (e_var rfl) x.obj (show 6 < 50 by decide)) (s_ret (e_var upd_self)))) ⟨_, rfl, rfl, ?_⟩)
  have e : ExtB X.own H (H.set X.b (.inst C_BlockBuilder (X.fs (st.next + 1)))) := .set own_b
  have nd := x.ok.nd
  exact ⟨⟨x.ok, x.ext.over e x.ok.ge, get_set x.obj, (List.getElem?_set_ne nd.1.1).trans x.rows, (List.getElem?_set_ne nd.1.2.1).trans x.chains, let ⟨D, h, k⟩ := x.known; ⟨D, (List.getElem?_set_ne nd.1.2.2).trans h, k⟩⟩, e⟩
theorem find_zs (chains : List (Int × List Nat)) (ps : List Nat) : (chains.find? fun c => decide (zs c.2 = zs ps)) = chains.find? fun c => decide (c.2 = ps) := by
  congr 1
  funext c
  exact decide_eq_decide.mpr ⟨zs_inj, fun e => by rw [e]⟩
theorem KnOk.get {D : Dct} {chains : List (Int × List Nat)} (x : KnOk D chains) (ps : List Nat) : D.get (.tup (nats ps)) = some ((chains.find? fun c => decide (c.2 = ps)).map fun c => .int c.1) := by
  rcases x with ⟨rfl, rfl⟩ | ⟨f, rfl, h⟩ <;> refine (keyOf_bind ps _).trans ?_
  · rfl
  · show some (f (zs ps)) = _
    rw [h, find_zs]
theorem KnOk.put {D : Dct} {chains : List (Int × List Nat)} (x : KnOk D chains) {ps : List Nat} (l : Int) (hz : chains.length < 1000) (hf : (chains.find? fun c => decide (c.2 = ps)) = none) :
    ∃ D', D.put (.tup (nats ps)) (.int l) = some D' ∧ KnOk D' (chains ++ [(l, ps)]) := by
  have key : ∀ f : List Int → Option V, (∀ l, f l = (chains.find? fun c => decide (zs c.2 = l)).map fun c => .int c.1) → ∀ j, (if j = zs ps then some (V.int l) else f j) = ((chains ++ [(l, ps)]).find? fun c => decide (zs c.2 = j)).map fun c => .int c.1 := fun f h j => by
    rw [List.find?_append]
    by_cases hj : j = zs ps
    · subst hj
      rw [if_pos rfl, find_zs, hf, Option.none_or, find_zs, List.find?_cons_of_pos (p := fun c : Int × List Nat => decide (c.2 = ps)) (decide_eq_true rfl)]
      rfl
    · rw [if_neg hj, h, List.find?_cons_of_neg (fun e => hj (of_decide_eq_true e).symm), List.find?_nil, Option.or_none]
  rcases x with ⟨rfl, rfl⟩ | ⟨f, rfl, h⟩
  · exact ⟨.T (fun j => if j = zs ps then some (.int l) else none) 1, (keyOf_bind ps _).trans (if_pos (e := Option.none) (show 0 < big by decide)), .inr ⟨_, rfl, key (fun _ => none) fun _ => rfl⟩⟩
  · exact ⟨.T (fun j => if j = zs ps then some (.int l) else f j) (chains.length + 1), (keyOf_bind ps _).trans (if_pos (e := Option.none) (lt_big (Nat.lt_trans hz (by decide)))), .inr ⟨_, by rw [List.length_append]; rfl, key f h⟩⟩
noncomputable def chainF (st : Bst) (ps : List Nat) : Int × Bst := match ps with
  | [] => (-1, st)
  | [p] => (p, st)
  | ps => match st.chains.find? fun c => decide (c.2 = ps) with
    | some c => (c.1, st)
    | none => (st.next, { st with chains := st.chains ++ [(st.next, ps)], next := st.next + 1 })
theorem chain_ok (x : Bld X H st) {q : Nat} {ps : List Nat} (hq : H[q]? = some (.list (nats ps))) (hp : ps.length < 100) (hz : st.chains.length < 1000) :
    RunV (P.BlockBuilder_chain [.ref X.b, .ref q] H) (.int (chainF st ps).1) (To X H (chainF st ps).2) := by
  have le : E.len (E.var "places") (args ["self", "places"] [.ref X.b, .ref q]) H = some (.int ps.length, H) := (e_len (e_var rfl) hq).trans (by rw [nats_len])
  match ps, hq, le with
  | [], hq, le => exact RunV_fn rfl (.of (s_iffT (t_eqi le) (s_assoc.trans (s_ret rfl))) ⟨_, rfl, rfl, .refl x⟩)
  | [p], hq, le => exact RunV_fn rfl (.of (s_skip (t_eqi le) (s_iffT (t_eqi le) (s_assoc.trans (s_ret (e_item0 (e_var rfl) (list_get (n := 0) hq rfl)))))) ⟨_, rfl, rfl, .refl x⟩)
  | p1 :: p2 :: ps, hq, le =>
    obtain ⟨l, hl⟩ : ∃ l, l = p1 :: p2 :: ps := ⟨_, rfl⟩
    obtain ⟨D, hD, kD⟩ := x.known
    have n0 : decide (((p1 :: p2 :: ps).length : Int) = 0) = false := decide_eq_false (by rw [List.length_cons]; omega)
    have n1 : decide (((p1 :: p2 :: ps).length : Int) = 1) = false := decide_eq_false (by rw [List.length_cons, List.length_cons]; omega)
    have cf : chainF st (p1 :: p2 :: ps) = match st.chains.find? fun c => decide (c.2 = p1 :: p2 :: ps) with
      | some c => (c.1, st)
      | none => (st.next, { st with chains := st.chains ++ [(st.next, p1 :: p2 :: ps)], next := st.next + 1 }) := rfl
    refine RunV_fn rfl (.of (s_skip ((t_eqi le).trans (by rw [n0])) (s_skip ((t_eqi le).trans (by rw [n1])) (s_asg (e_mktup (e_var rfl) hq) rfl))) ?_)
    rw [← hl] at cf ⊢
    clear le n0 n1 hq hl
    have g := kD.get l
    have hk : E.attr C_BlockBuilder "known" (E.var "self") (upd (args ["self", "places"] [.ref X.b, .ref q]) "wanted" (.tup (nats l))) H = some (.ref X.kn, H) := x.attr (e_var rfl) rfl
    have hin : inV H (.tup (nats l)) (.ref X.kn) = (D.get (.tup (nats l))).map (·.isSome) := h_in hD
    rw [cf]
    cases hf : st.chains.find? fun c => decide (c.2 = l) with
    | some cc =>
      rw [hf] at g
      rw [g] at hin
      refine .of (s_iffT (t_cmp (e_var upd_self) hk hin) (s_assoc.trans (s_ret (e_item hk (e_var upd_self) (Z := .int cc.1) ?_)))) ⟨_, rfl, rfl, .refl x⟩
      rw [h_get hD]
      show Option.join _ = _
      rw [g]
      rfl
    | none =>
      rw [hf] at g
      rw [g] at hin
      refine .of (s_skip (t_cmp (e_var upd_self) hk hin) rfl) ((fresh_label_ok x).use fun H1 e1 y => ?_)
      obtain ⟨D1, hD1, kD1⟩ := y.b.known
      obtain ⟨D2, hD2, kD2⟩ := kD1.put (ps := l) st.next hz hf
      have nd := x.ok.nd
      have e2 : ExtB X.own H1 (H1.set X.kn (.dict D2)) := .set own_kn
      have e3 : ExtB X.own (H1.set X.kn (.dict D2)) ((H1.set X.kn (.dict D2)).set X.ch (.list (st.chains.map encC ++ [encC (st.next, l)]))) := .set own_ch
      have o2 := (List.getElem?_set_ne (a := O.dict D2) (Ne.symm nd.1.2.2)).trans y.b.obj
      have c2 := (List.getElem?_set_ne (a := O.dict D2) (Ne.symm nd.2.2)).trans y.b.chains
      refine .of (s_asg (e_meth0 (e_var rfl) x.obj rfl e1) (s_one (s_item (e_var upd_self) (e_attr (e_var rfl) y.b.obj rfl) (e_var rfl) hD1 hD2) (s_expr (e_app (e_attr (e_var rfl) o2 rfl) c2 (e_tup (evs2 (e_var rfl) (e_var rfl))) c2 (lt_big (by rw [List.length_map]; exact Nat.lt_trans hz (by decide)))) (s_ret (e_var rfl))))) ⟨_, rfl, rfl, ⟨x.ok, (y.b.ext.over (e2.trans e3) x.ok.ge), (List.getElem?_set_ne (Ne.symm nd.1.2.1)).trans o2, (List.getElem?_set_ne (Ne.symm nd.2.1.1)).trans ((List.getElem?_set_ne (Ne.symm nd.2.1.2)).trans y.b.rows), (get_set c2).trans ?_, D2, (List.getElem?_set_ne nd.2.2).trans (get_set hD1), kD2⟩, y.e.trans (e2.trans e3)⟩
      rw [List.map_append]; rfl
end
section
variable {X : BX} {H H1 H2 : Hp} {st : Bst}
noncomputable def vpl (keys : List Key) (ps : List Nat) : List Nat := ps.filter fun j => decide (keys[j]? = some .var)
theorem mid_lt {α : Type} {l d t : List α} {a : α} (h : l = d ++ a :: t) : d.length < l.length ∧ a ∈ l := ⟨by rw [h, List.length_append]; exact Nat.lt_add_of_pos_right (Nat.succ_pos _), h ▸ List.mem_append_right _ (.head _)⟩
theorem matching_places_ok (x : Bld X H st) {q : Nat} {ps : List Nat} {key : Key} (hq : H[q]? = some (.list (nats ps))) (hp : ps.length < 100) (hj : ∀ j ∈ ps, j < X.keys.length) :
    RunR (P.BlockBuilder_matching_places [.ref X.b, .ref q, key.enc] H) (NewL H (nats (mpl X.keys ps key))) := by
  refine RunR_fn rfl (.of (s_asg e_list0 rfl) ?_)
  have e0 : Ext H (H ++ [.list []]) := .push
  refine Run.forL (enc := fun j : Nat => .int j) (FI (upd (args ["self", "places", "cell_key"] [.ref X.b, .ref q, key.enc]) "found" (.ref H.length)) H.length H fun j => (X.keys[j]?).any (mat · key)) (e_var rfl) (e0.get hq) (fun d m H' y => Ext.get (y.ext.fresh (Nat.le_refl _)) hq) ⟨fun _ _ => rfl, get_new, e0.any⟩ (fun d j t m H' h y => ?_) fun m H' y => ?_
  · obtain ⟨h1, h2⟩ := mid_lt h
    have hl : ∀ z, z ≠ "place" → upd m "place" (.int j) z = _ := fun z h => (upd_ne h).trans (y.loc z h)
    have hk := List.getElem?_eq_getElem (hj j h2)
    have x' := x.same (y.ext.fresh (Nat.le_refl _))
    refine y.step rfl (by decide) (Nat.lt_trans h1 (Nat.lt_trans hp (by decide))) (e_t (e_call2 (e_key x'.codes hk (x'.attr (e_var (hl _ (by decide))) rfl) (e_var upd_self)) (e_var (hl _ (by decide))) ?_))
    rw [matching_ok, mpl_at hk]
  · exact Run.ret (e_var (y.loc _ (by decide))) ⟨H.length, rfl, y.ext.fresh (Nat.le_refl _), y.list, Nat.le_refl _⟩
theorem variable_places_ok (x : Bld X H st) {q : Nat} {ps : List Nat} (hq : H[q]? = some (.list (nats ps))) (hp : ps.length < 100) (hj : ∀ j ∈ ps, j < X.keys.length) :
    RunR (P.BlockBuilder_variable_places [.ref X.b, .ref q] H) (NewL H (nats (vpl X.keys ps))) := by
  refine RunR_fn rfl (.of (s_asg e_list0 rfl) ?_)
  have e0 : Ext H (H ++ [.list []]) := .push
  refine Run.forL (enc := fun j : Nat => .int j) (FI (upd (args ["self", "places"] [.ref X.b, .ref q]) "found" (.ref H.length)) H.length H fun j => decide (X.keys[j]? = some .var)) (e_var rfl) (e0.get hq) (fun d m H' y => Ext.get (y.ext.fresh (Nat.le_refl _)) hq) ⟨fun _ _ => rfl, get_new, e0.any⟩ (fun d j t m H' h y => ?_) fun m H' y => ?_
  · obtain ⟨h1, h2⟩ := mid_lt h
    have hl : ∀ z, z ≠ "place" → upd m "place" (.int j) z = _ := fun z h => (upd_ne h).trans (y.loc z h)
    have hk := List.getElem?_eq_getElem (hj j h2)
    have x' := x.same (y.ext.fresh (Nat.le_refl _))
    refine y.step rfl (by decide) (Nat.lt_trans h1 (Nat.lt_trans hp (by decide))) (t_cmp (e_key x'.codes hk (x'.attr (e_var (hl _ (by decide))) rfl) (e_var upd_self)) rfl ((eqV_key_var _).trans (congrArg some (decide_eq_decide.mpr (by rw [hk, Option.some.injEq])))))
  · exact Run.ret (e_var (y.loc _ (by decide))) ⟨H.length, rfl, y.ext.fresh (Nat.le_refl _), y.list, Nat.le_refl _⟩
theorem Bld.lt (x : Bld X H st) : ∀ i ∈ X.own, i < H.length := fun i hi =>
  have hk : X.kn < H.length := let ⟨D, h, k⟩ := x.known; lt_of h
  match i, hi with
  | _, .head _ => lt_of x.obj
  | _, .tail _ (.head _) => lt_of x.rows
  | _, .tail _ (.tail _ (.head _)) => lt_of x.chains
  | _, .tail _ (.tail _ (.tail _ (.head _))) => hk
/-- what is not the builder's own may change -/
theorem Bld.keep (x : Bld X H st) {S : List Nat} (e : ExtB S H H1) (hS : ∀ i ∈ S, i ∉ X.own ∧ X.H0.length ≤ i) : Bld X H1 st :=
  have k : ∀ i ∈ X.own, i ∉ S := fun i hi hs => (hS i hs).1 hi
  ⟨x.ok, x.ext.over e fun s hs => (hS s hs).2, e.get (k _ own_b) x.obj, e.get (k _ own_r) x.rows, e.get (k _ own_ch) x.chains, let ⟨D, h, d⟩ := x.known; ⟨D, e.get (k _ own_kn) h, d⟩⟩
theorem Bld.set (x : Bld X H st) {i : Nat} {o : O} (hi : i ∉ X.own) (h0 : X.H0.length ≤ i) : Bld X (H.set i o) st := x.keep (S := [i]) (.set (.head _)) fun j hj => List.mem_singleton.mp hj ▸ ⟨hi, h0⟩
noncomputable def SeenOk (D : Dct) (don : List Key) (k : Kind) : Prop := (don = [] ∧ D = .emp) ∨ (k = .co ∧ ∃ f, D = .T f don.length ∧ ∀ x n, f [x, n] = if Key.co x n ∈ don then some (.bool true) else none) ∨
  (k = .st ∧ ∃ f, D = .I f don.length ∧ ∀ i, f i = if Key.st i ∈ don then some (.bool true) else none)
theorem tabl_two {key : Key} (ht : tabl key.kind) : (∃ c n, key = .co c n) ∨ ∃ i, key = .st i := by
  cases key with
  | co c n => exact .inl ⟨c, n, rfl⟩
  | st i => exact .inr ⟨i, rfl⟩
  | _ => rcases ht with h | h <;> cases h
theorem SeenOk.get {D : Dct} {don : List Key} {k : Kind} (x : SeenOk D don k) {key : Key} (hk : key.kind = k) (ht : tabl k) : D.get key.argV = some (if key ∈ don then some (.bool true) else none) := by
  subst hk
  rcases tabl_two ht with ⟨c, n, rfl⟩ | ⟨i, rfl⟩
  · rcases x with ⟨rfl, rfl⟩ | ⟨h, f, rfl, hf⟩ | ⟨h, f, rfl, hf⟩
    · rfl
    · exact congrArg some (hf c n)
    · cases h
  · rcases x with ⟨rfl, rfl⟩ | ⟨h, f, rfl, hf⟩ | ⟨h, f, rfl, hf⟩
    · rfl
    · cases h
    · exact congrArg some (hf i)
theorem seen_snoc {α : Type} [DecidableEq α] {don : List α} {key k : α} {p : Prop} [Decidable p] {v' : Option V} (h : v' = if k ∈ don then some (.bool true) else none) (e : p ↔ k = key) : (if p then some (V.bool true) else v') = if k ∈ don ++ [key] then some (.bool true) else none := by
  by_cases hk : k = key
  · rw [if_pos (e.mpr hk), if_pos (List.mem_append_right _ (List.mem_singleton.mpr hk))]
  · rw [if_neg fun h => hk (e.mp h), h]
    by_cases hd : k ∈ don
    · rw [if_pos hd, if_pos (List.mem_append_left _ hd)]
    · rw [if_neg hd, if_neg fun h => (List.mem_append.mp h).elim hd fun h => hk (List.mem_singleton.mp h)]
theorem SeenOk.put {D : Dct} {don : List Key} {k : Kind} (x : SeenOk D don k) {key : Key} (hk : key.kind = k) (ht : tabl k) (hz : don.length < 1000) : ∃ D', D.put key.argV (.bool true) = some D' ∧ SeenOk D' (don ++ [key]) k := by
  subst hk
  have hb : don.length < big := lt_big (Nat.lt_trans hz (by decide))
  have hl : (don ++ [key]).length = don.length + 1 := List.length_append
  rcases tabl_two ht with ⟨c, n, rfl⟩ | ⟨i, rfl⟩
  · have key : ∀ f : List Int → Option V, (∀ x m, f [x, m] = if Key.co x m ∈ don then some (.bool true) else none) → ∀ x m, (if [x, m] = [c, n] then some (V.bool true) else f [x, m]) = if Key.co x m ∈ don ++ [.co c n] then some (.bool true) else none := fun f hf x m =>
      seen_snoc (hf x m) ⟨fun h => by cases h; rfl, fun h => by cases h; rfl⟩
    rcases x with ⟨rfl, rfl⟩ | ⟨h, f, rfl, hf⟩ | ⟨h, f, rfl, hf⟩
    · exact ⟨_, rfl, .inr (.inl ⟨rfl, _, rfl, key (fun _ => none) fun _ _ => rfl⟩)⟩
    · exact ⟨.T (fun j => if j = [c, n] then some (V.bool true) else f j) (don.length + 1), if_pos (e := Option.none) hb, .inr (.inl ⟨rfl, _, by rw [hl], key f hf⟩)⟩
    · cases h
  · have key : ∀ f : Int → Option V, (∀ x, f x = if Key.st x ∈ don then some (.bool true) else none) → ∀ x, (if x = i then some (V.bool true) else f x) = if Key.st x ∈ don ++ [.st i] then some (.bool true) else none := fun f hf x =>
      seen_snoc (hf x) ⟨fun h => by cases h; rfl, fun h => by cases h; rfl⟩
    rcases x with ⟨rfl, rfl⟩ | ⟨h, f, rfl, hf⟩ | ⟨h, f, rfl, hf⟩
    · exact ⟨_, rfl, .inr (.inr ⟨rfl, _, rfl, key (fun _ => none) fun _ => rfl⟩)⟩
    · cases h
    · exact ⟨.I (fun j => if j = i then some (V.bool true) else f j) (don.length + 1), if_pos (e := Option.none) hb, .inr (.inr ⟨rfl, _, by rw [hl], key f hf⟩)⟩
end
section
variable {m : Loc} {H H1 : Hp} {t : Tx} {ts : List Tx} {r : Option (Bool × Hp)} {p : Bool}
theorem t_andF (h : t m H = some (false, H1)) : T.and (t :: ts) m H = some (false, H1) := by unfold T.and; rw [h]; rfl
theorem t_andT (h : t m H = some (true, H1)) (h2 : T.and ts m H1 = r) : T.and (t :: ts) m H = r := by unfold T.and; rw [h]; exact h2
theorem t_and1 (h : t m H = some (p, H1)) : T.and [t] m H = some (p, H1) := by
  cases p with
  | true => exact t_andT h rfl
  | false => exact t_andF h
end
theorem Key.get0 (H : Hp) (k : Key) : getI H k.enc (.int 0) = some (.str k.kind.word) := by cases k <;> exact tup_get (n := 0) (by decide) rfl
theorem Key.get1 (H : Hp) {k : Key} (h : tabl k.kind) : getI H k.enc (.int 1) = some k.argV := by
  rcases tabl_two h with ⟨c, n, rfl⟩ | ⟨i, rfl⟩ <;> exact tup_get (n := 1) (by decide) rfl
theorem Kind.word_inj {a b : Kind} (h : a.word = b.word) : a = b := by revert a b; intro a b; cases a <;> cases b <;> first | exact fun _ => rfl | exact fun h => absurd h (by decide)
@[simp] theorem Kind.word_eq {a b : Kind} : a.word = b.word ↔ a = b := ⟨Kind.word_inj, fun e => by rw [e]⟩
noncomputable def tabStep (keys : List Key) (ps : List Nat) (k : Kind) (acc : List (Key × Int) × Bst) (j : Nat) : List (Key × Int) × Bst := match keys[j]? with
  | some key => if key.kind = k ∧ key ∉ acc.1.map (·.1) then (acc.1 ++ [(key, (chainF acc.2 (mpl keys ps key)).1)], (chainF acc.2 (mpl keys ps key)).2) else acc
  | none => acc
theorem tabStep_some {keys : List Key} {j : Nat} {key : Key} (e : keys[j]? = some key) (ps : List Nat) (k : Kind) (acc : List (Key × Int) × Bst) : tabStep keys ps k acc j = if key.kind = k ∧ key ∉ acc.1.map (·.1) then (acc.1 ++ [(key, (chainF acc.2 (mpl keys ps key)).1)], (chainF acc.2 (mpl keys ps key)).2) else acc := by unfold tabStep; rw [e]
noncomputable def tableF (keys : List Key) (ps : List Nat) (k : Kind) (st : Bst) : List (Key × Int) × Bst := ps.foldl (tabStep keys ps k) ([], st)
theorem chainF_cases {Q : Int × Bst → Prop} (st : Bst) (ps : List Nat) (h1 : ∀ n, Q (n, st)) (h2 : 2 ≤ ps.length → Q (st.next, { st with chains := st.chains ++ [(st.next, ps)], next := st.next + 1 })) : Q (chainF st ps) := by
  match ps, h2 with
  | [], _ => exact h1 _
  | [p], _ => exact h1 _
  | p1 :: p2 :: ps, h2 =>
    show Q (match st.chains.find? fun c => decide (c.2 = p1 :: p2 :: ps) with
      | some c => (c.1, st)
      | none => (st.next, { st with chains := st.chains ++ [(st.next, p1 :: p2 :: ps)], next := st.next + 1 }))
    cases st.chains.find? fun c => decide (c.2 = p1 :: p2 :: ps) with
    | some c => exact h1 _
    | none => exact h2 (Nat.le_add_left 2 ps.length)
theorem chainF_len (st : Bst) (ps : List Nat) : (chainF st ps).2.chains.length ≤ st.chains.length + 1 :=
  chainF_cases (Q := fun c => c.2.chains.length ≤ st.chains.length + 1) st ps (fun _ => Nat.le_succ _) fun _ => Nat.le_of_eq List.length_append
theorem tabStep_len (keys : List Key) (ps : List Nat) (k : Kind) (acc : List (Key × Int) × Bst) (j : Nat) : (tabStep keys ps k acc j).1.length ≤ acc.1.length + 1 ∧ (tabStep keys ps k acc j).2.chains.length ≤ acc.2.chains.length + 1 := by
  unfold tabStep
  split
  · split
    · exact ⟨Nat.le_of_eq List.length_append, chainF_len _ _⟩
    · exact ⟨Nat.le_succ _, Nat.le_succ _⟩
  · exact ⟨Nat.le_succ _, Nat.le_succ _⟩
theorem fold_len (keys : List Key) (ps : List Nat) (k : Kind) : ∀ (qs : List Nat) (acc : List (Key × Int) × Bst), (qs.foldl (tabStep keys ps k) acc).1.length ≤ acc.1.length + qs.length ∧ (qs.foldl (tabStep keys ps k) acc).2.chains.length ≤ acc.2.chains.length + qs.length := by
  intro qs
  induction qs with
  | nil => exact fun acc => ⟨Nat.le_refl _, Nat.le_refl _⟩
  | cons j qs ih =>
    intro acc
    have h1 := tabStep_len keys ps k acc j
    have h2 := ih (tabStep keys ps k acc j)
    have e : ∀ {a b c n : Nat}, b ≤ c + 1 → a ≤ b + n → a ≤ c + (n + 1) := fun h1 h2 => Nat.le_trans h2 (by rw [Nat.add_comm _ 1, ← Nat.add_assoc]; exact Nat.add_le_add_right h1 _)
    exact ⟨e h1.1 h2.1, e h1.2 h2.2⟩
structure TI (X : BX) (m0 : Loc) (H : Hp) (k : Kind) (acc : List (Key × Int) × Bst) (m : Loc) (H2 : Hp) : Prop where
  loc : ∀ z, z ∉ ["place", "key"] → m z = m0 z
  pairs : H2[H.length]? = some (.list (acc.1.map encP))
  seen : ∃ D, H2[H.length + 1]? = some (.dict D) ∧ SeenOk D (acc.1.map (·.1)) k
  bld : Bld X H2 acc.2
  ext : ExtB (H.length :: (H.length + 1) :: X.own) H H2
structure TA (X : BX) (m0 : Loc) (H : Hp) (q : Nat) (ps : List Nat) (k : Kind) : Prop where
  self : m0 "self" = some (.ref X.b)
  places : m0 "places" = some (.ref q)
  kind : m0 "kind" = some (.str k.word)
  pairs : m0 "pairs" = some (.ref H.length)
  seen : m0 "seen" = some (.ref (H.length + 1))
  tab : tabl k
  hq : H[q]? = some (.list (nats ps))
  qo : q ∉ X.own
  few : ps.length < 100
  lt : ∀ j ∈ ps, j < X.keys.length
  new : ∀ i ∈ X.own, i < H.length
  ge : X.H0.length ≤ H.length
section
variable {X : BX} {H H1 : Hp} {st : Bst} {m0 m : Loc} {q j : Nat} {ps : List Nat} {k : Kind} {acc : List (Key × Int) × Bst}
theorem TA.qn (A : TA X m0 H q ps k) : q ∉ H.length :: (H.length + 1) :: X.own := fun h => by
  have := lt_of A.hq
  rcases List.mem_cons.mp h with rfl | h
  · exact Nat.lt_irrefl _ this
  · rcases List.mem_cons.mp h with rfl | h
    · exact Nat.lt_irrefl _ (Nat.lt_of_succ_lt this)
    · exact A.qo h
theorem TA.no (A : TA X m0 H q ps k) {i : Nat} (h : H.length ≤ i) : i ∉ X.own := fun hi => Nat.lt_irrefl _ (Nat.lt_of_lt_of_le (A.new i hi) h)
theorem TI.step (A : TA X m0 H q ps k) (x : TI X m0 H k acc m H1) (hj : j ∈ ps) (h1 : acc.1.length < 100) (h2 : acc.2.chains.length < 1000) :
    Run ((S.seq (S.asg "key" (E.attr C_ClauseCode "key" (E.item (E.attr C_BlockBuilder "codes" (E.var "self")) (E.var "place")))) (S.seq (S.iff (T.and [T.cmp .Eq (E.item (E.var "key") (E.const (.int 0))) (E.var "kind"), T.cmp .NotIn (E.item (E.var "key") (E.const (.int 1))) (E.var "seen")]) (S.seq (S.asgItem (E.var "seen") (E.item (E.var "key") (E.const (.int 1))) (E.const (.bool true))) (S.seq (S.expr (E.lmeth E.opAppend (E.var "pairs") [E.tup [E.item (E.var "key") (E.const (.int 1)), E.meth C_BlockBuilder "chain" P.BlockBuilder_chain (E.var "self") [E.meth C_BlockBuilder "matching_places" P.BlockBuilder_matching_places (E.var "self") [E.var "places", E.var "key"]]]])) (S.nil))) (S.nil)) (S.nil))) (upd m "place" (.int j)) H1) fun z => z.1 = .next ∧ TI X m0 H k (tabStep X.keys ps k acc j) z.2.1 z.2.2 := by
  have hk := List.getElem?_eq_getElem (A.lt j hj)
  obtain ⟨key, ek⟩ : ∃ key, key = X.keys[j]'(A.lt j hj) := ⟨_, rfl⟩
  rw [← ek] at hk
  clear ek
  rw [tabStep_some hk]
  have hl0 : ∀ z, z ∉ ["place", "key"] → upd m "place" (.int j) z = m0 z := loc_upd (.head _) x.loc
  refine .of (s_asg (e_key x.bld.codes hk (x.bld.attr (e_var ((hl0 _ (by decide)).trans A.self)) rfl) (e_var upd_self)) rfl) ?_
  have hl : ∀ z, z ∉ ["place", "key"] → upd (upd m "place" (.int j)) "key" key.enc z = m0 z := loc_upd (.tail _ (.head _)) hl0
  have mk : upd (upd m "place" (.int j)) "key" key.enc "key" = some key.enc := upd_self
  generalize upd (upd m "place" (.int j)) "key" key.enc = m1 at *
  clear hl0
  have t1 : T.cmp .Eq (E.item (E.var "key") (E.const (.int 0))) (E.var "kind") m1 H1 = some (decide (key.kind = k), H1) := t_cmp (e_itemv mk (Key.get0 H1 key)) (e_var ((hl _ (by decide)).trans A.kind)) ((eqV_str (H := H1) _ _).trans (congrArg some (decide_eq_decide.mpr Kind.word_eq)))
  have keep : ∀ {R : Sx} {acc2}, acc2 = acc → R m1 H1 = some (.next, m1, H1) → Run (R m1 H1) fun z => z.1 = .next ∧ TI X m0 H k acc2 z.2.1 z.2.2 := fun e h => ⟨_, h, rfl, hl, e ▸ x.pairs, e ▸ x.seen, e ▸ x.bld, x.ext⟩
  by_cases hkk : key.kind = k
  · obtain ⟨D, hD, kD⟩ := x.seen
    have ht : tabl key.kind := hkk ▸ A.tab
    have g1 : ∀ {H2 : Hp}, E.item (E.var "key") (E.const (.int 1)) m1 H2 = some (key.argV, H2) := e_itemv mk (Key.get1 _ ht)
    have hin : inV H1 key.argV (.ref (H.length + 1)) = some (decide (key ∈ acc.1.map (·.1))) := by
      rw [h_in hD]
      show Option.map _ _ = _
      rw [kD.get hkk A.tab, Option.map_some]
      by_cases h : key ∈ acc.1.map (·.1)
      · rw [if_pos h, decide_eq_true h]; rfl
      · rw [if_neg h, decide_eq_false h]; rfl
    have t2 := t_andT (t1.trans (by rw [decide_eq_true hkk])) (t_and1 (t_inF g1 (e_var ((hl _ (by decide)).trans A.seen)) hin))
    by_cases hs : key ∈ acc.1.map (·.1)
    · rw [decide_eq_true hs] at t2
      exact keep (if_neg fun h => h.2 hs) (s_skip t2 rfl)
    · rw [decide_eq_false hs] at t2
      rw [if_pos ⟨hkk, hs⟩]
      obtain ⟨D', hD', kD'⟩ := kD.put hkk A.tab (by rw [List.length_map]; exact Nat.lt_trans h1 (by decide))
      refine .of (s_iffT t2 (s_assoc.trans (s_one (s_item rfl (e_var ((hl _ (by decide)).trans A.seen)) g1 hD hD') rfl))) ?_
      have x1 := x.bld.set (o := .dict D') (A.no (Nat.le_succ _)) (Nat.le_succ_of_le A.ge)
      have f1 : ExtB (H.length :: (H.length + 1) :: X.own) H1 (H1.set (H.length + 1) (.dict D')) := .set (.tail _ (.head _))
      have p1 := (List.getElem?_set_ne (a := O.dict D') (Nat.ne_of_gt (Nat.lt_succ_self H.length))).trans x.pairs
      have s1 := get_set (o := .dict D') hD
      have q1 := (x.ext.trans f1).get A.qn A.hq
      refine (matching_places_ok x1 (key := key) q1 A.few A.lt).use fun t2 H2 e2 y2 => ?_
      refine (chain_ok (x1.same y2.ext) y2.list (Nat.lt_of_le_of_lt (List.length_filter_le _ _) A.few) h2).use fun H3 e3 y3 => ?_
      have p3 := y3.e.get (A.no (Nat.le_refl _)) (y2.ext.get p1)
      have ms := (hl _ (by decide)).trans A.self
      refine ⟨_, s_assoc.trans (s_expr (e_app (X := encP (key, (chainF acc.2 (mpl X.keys ps key)).1)) (e_var ((hl _ (by decide)).trans A.pairs)) p1 (e_tup (evs2 g1 (e_meth1 (e_var ms) x1.obj rfl (e_meth2 (e_var ms) x1.obj rfl (e_var ((hl _ (by decide)).trans A.places)) (e_var mk) e2) e3))) p3 (lt_big (by rw [List.length_map]; exact Nat.lt_trans h1 (by decide)))) rfl), rfl, hl, ?_, ⟨D', ?_, ?_⟩, y3.b.set (A.no (Nat.le_refl _)) A.ge, ?_⟩
      · rw [get_set p3, List.map_append]; rfl
      · rw [List.getElem?_set_ne (Nat.ne_of_lt (Nat.lt_succ_self H.length))]; exact y3.e.get (A.no (Nat.le_succ _)) (y2.ext.get s1)
      · rw [List.map_append]; exact kD'
      · exact x.ext.trans (f1.trans (y2.ext.any.trans (ExtB.trans (y3.e.weak fun s hs => .inl (.tail _ (.tail _ hs))) (.set (.head _)))))
  · exact keep (if_neg fun h => hkk h.1) (s_skip (t_andF (t1.trans (by rw [decide_eq_false hkk]))) rfl)
theorem table_ok (x : Bld X H st) {q : Nat} {ps : List Nat} {k : Kind} (ht : tabl k) (hq : H[q]? = some (.list (nats ps))) (hqo : q ∉ X.own) (hp : ps.length < 100) (hj : ∀ j ∈ ps, j < X.keys.length) (hz : st.chains.length < 800) :
    RunV (P.BlockBuilder_table [.ref X.b, .ref q, .str k.word] H) (.tup ((tableF X.keys ps k st).1.map encP)) (To X H (tableF X.keys ps k st).2) := by
  have e1 : Ext H (H ++ [.list []]) := .push
  have e2 : Ext (H ++ [.list []]) (H ++ [.list []] ++ [.dict .emp]) := .push
  have l1 : (H ++ [O.list []]).length = H.length + 1 := List.length_append
  refine RunV_fn rfl (.of (s_asg e_list0 (s_asg (X := .ref (H.length + 1)) (H1 := H ++ [.list []] ++ [.dict .emp]) (by rw [← l1]; rfl) rfl)) ?_)
  obtain ⟨m0, hm⟩ : ∃ m0, m0 = upd (upd (args ["self", "places", "kind"] [.ref X.b, .ref q, .str k.word]) "pairs" (.ref H.length)) "seen" (.ref (H.length + 1)) := ⟨_, rfl⟩
  have A : TA X m0 H q ps k := ⟨hm ▸ rfl, hm ▸ rfl, hm ▸ rfl, hm ▸ rfl, hm ▸ rfl, ht, hq, hqo, hp, hj, x.lt, x.ext.2⟩
  rw [← hm]
  clear hm
  refine Run.forL (enc := fun j : Nat => .int j) (fun d => TI X m0 H k (d.foldl (tabStep X.keys ps k) ([], st))) (e_var A.places) (e2.get (e1.get hq)) (fun d m H' y => y.ext.get A.qn hq) ⟨fun _ _ => rfl, e2.get get_new, ⟨.emp, by rw [← l1]; exact get_new, .inl ⟨rfl, rfl⟩⟩, x.same (e1.trans e2), Ext.any (e1.trans e2)⟩ (fun d j t m H' h y => ?_) fun m H' y => ?_
  · obtain ⟨h1, h2⟩ := mid_lt h
    have fl := fold_len X.keys ps k d ([], st)
    rw [List.foldl_append]
    exact TI.step A y h2 (Nat.lt_of_le_of_lt fl.1 (by rw [List.length_nil, Nat.zero_add]; exact Nat.lt_trans h1 hp)) (Nat.lt_of_le_of_lt fl.2 (Nat.add_lt_add hz (Nat.lt_trans (Nat.lt_trans h1 hp) (by decide : 100 < 200))))
  · exact Run.ret (e_mktup (e_var ((y.loc _ (by decide)).trans A.pairs)) y.pairs) ⟨rfl, y.bld, (y.ext.fresh (Nat.le_refl _)).fresh (Nat.le_succ _)⟩
end
theorem tableF_len (keys : List Key) (ps : List Nat) (k : Kind) (st : Bst) : (tableF keys ps k st).1.length ≤ ps.length ∧ (tableF keys ps k st).2.chains.length ≤ st.chains.length + ps.length :=
  have h := fold_len keys ps k ps ([], st)
  ⟨Nat.le_trans h.1 (Nat.le_of_eq (Nat.zero_add _)), h.2⟩
noncomputable def freshIf (ps : List (Key × Int)) (d : Int) (st : Bst) : Int × Bst := if ps = [] then (d, st) else (st.next, { st with next := st.next + 1 })
noncomputable def tabRows (ps : List (Key × Int)) (l : Int) (k : Kind) (d : Int) : List Row := if ps = [] then [] else [.lab l, .sw k ps d]
noncomputable def swA (keys : List Key) (ps : List Nat) (st : Bst) : Int × Bst := chainF st (vpl keys ps)
noncomputable def swB (keys : List Key) (ps : List Nat) (st : Bst) : List (Key × Int) × Bst := tableF keys ps .co (swA keys ps st).2
noncomputable def swC (keys : List Key) (ps : List Nat) (st : Bst) : List (Key × Int) × Bst := tableF keys ps .st (swB keys ps st).2
noncomputable def swD (keys : List Key) (ps : List Nat) (st : Bst) : Int × Bst := freshIf (swB keys ps st).1 (swA keys ps st).1 (swC keys ps st).2
noncomputable def swE (keys : List Key) (ps : List Nat) (st : Bst) : Int × Bst := freshIf (swC keys ps st).1 (swA keys ps st).1 (swD keys ps st).2
noncomputable def swF (keys : List Key) (ps : List Nat) (st : Bst) : Int × Bst := chainF (swE keys ps st).2 (mpl keys ps .list)
noncomputable def swG (keys : List Key) (ps : List Nat) (st : Bst) : Int × Bst := chainF (swF keys ps st).2 ps
noncomputable def swRows (keys : List Key) (ps : List Nat) (st : Bst) : List Row := .swt (swG keys ps st).1 (swD keys ps st).1 (swF keys ps st).1 (swE keys ps st).1 :: (tabRows (swB keys ps st).1 (swD keys ps st).1 .co (swA keys ps st).1 ++ tabRows (swC keys ps st).1 (swE keys ps st).1 .st (swA keys ps st).1)
noncomputable def switchF (keys : List Key) (ps : List Nat) (st : Bst) : Bst := { (swG keys ps st).2 with rows := (swG keys ps st).2.rows ++ swRows keys ps st }
theorem freshIf_chains (ps : List (Key × Int)) (d : Int) (st : Bst) : (freshIf ps d st).2.chains = st.chains := by unfold freshIf; split <;> rfl
theorem freshIf_rows (ps : List (Key × Int)) (d : Int) (st : Bst) : (freshIf ps d st).2.rows = st.rows := by unfold freshIf; split <;> rfl
theorem chainF_rows (st : Bst) (ps : List Nat) : (chainF st ps).2.rows = st.rows := chainF_cases (Q := fun c => c.2.rows = st.rows) st ps (fun _ => rfl) fun _ => rfl
/-- what keeps along a table -/
theorem tableF_ind {Q : Bst → Prop} {keys : List Key} {ps : List Nat} {k : Kind} (hs : ∀ st key, Q st → Q (chainF st (mpl keys ps key)).2) {st : Bst} (h : Q st) : Q (tableF keys ps k st).2 := by
  have : ∀ (qs : List Nat) (acc : List (Key × Int) × Bst), Q acc.2 → Q (qs.foldl (tabStep keys ps k) acc).2 := by
    intro qs
    induction qs with
    | nil => exact fun _ h => h
    | cons j qs ih =>
      intro acc h
      refine ih _ ?_
      unfold tabStep
      split
      · split
        · exact hs _ _ h
        · exact h
      · exact h
  exact this ps ([], st) h
theorem tableF_rows (keys : List Key) (ps : List Nat) (k : Kind) (st : Bst) : (tableF keys ps k st).2.rows = st.rows := tableF_ind (Q := fun s => s.rows = st.rows) (fun _ _ h => (chainF_rows _ _).trans h) rfl
theorem swG_rows (keys : List Key) (ps : List Nat) (st : Bst) : (swG keys ps st).2.rows = st.rows :=
  (chainF_rows _ _).trans ((chainF_rows _ _).trans ((freshIf_rows _ _ _).trans ((freshIf_rows _ _ _).trans ((tableF_rows _ _ _ _).trans ((tableF_rows _ _ _ _).trans (chainF_rows _ _))))))
theorem sw_lens (keys : List Key) (ps : List Nat) (st : Bst) : (swA keys ps st).2.chains.length ≤ st.chains.length + 1 ∧ (swB keys ps st).2.chains.length ≤ st.chains.length + 1 + ps.length ∧ (swE keys ps st).2.chains.length ≤ st.chains.length + 1 + ps.length + ps.length ∧ (swF keys ps st).2.chains.length ≤ st.chains.length + 1 + ps.length + ps.length + 1 ∧ (swG keys ps st).2.chains.length ≤ st.chains.length + 1 + ps.length + ps.length + 1 + 1 := by
  have a : (swA keys ps st).2.chains.length ≤ st.chains.length + 1 := chainF_len _ _
  have b : (swB keys ps st).2.chains.length ≤ st.chains.length + 1 + ps.length := Nat.le_trans (tableF_len _ _ _ _).2 (Nat.add_le_add_right a _)
  have c : (swC keys ps st).2.chains.length ≤ st.chains.length + 1 + ps.length + ps.length := Nat.le_trans (tableF_len _ _ _ _).2 (Nat.add_le_add_right b _)
  have e : (swE keys ps st).2.chains.length ≤ st.chains.length + 1 + ps.length + ps.length := by
    unfold swE; rw [freshIf_chains]; unfold swD; rw [freshIf_chains]; exact c
  have f : (swF keys ps st).2.chains.length ≤ st.chains.length + 1 + ps.length + ps.length + 1 := Nat.le_trans (chainF_len _ _) (Nat.add_le_add_right e _)
  exact ⟨a, b, e, f, Nat.le_trans (chainF_len _ _) (Nat.add_le_add_right f _)⟩
theorem Run_seq {a b : Sx} {m : Loc} {H : Hp} {Post : Fl × Loc × Hp → Prop} (h : Run (a m H) fun r => r.1 = .next ∧ Run (b r.2.1 r.2.2) Post) : Run (S.seq a b m H) Post := by
  obtain ⟨⟨fl, m1, H1⟩, e, rfl, h2⟩ := h
  unfold S.seq
  rw [e]
  exact h2
structure SwL (m : Loc) (b q : Nat) (d : Int) (cs ss : List (Key × Int)) (cl sl : Int) : Prop where
  self : m "self" = some (.ref b)
  places : m "places" = some (.ref q)
  dflt : m "default" = some (.int d)
  cs : m "constants" = some (.tup (cs.map encP))
  ss : m "structures" = some (.tup (ss.map encP))
  cl : m "const_label" = some (.int cl)
  sl : m "struct_label" = some (.int sl)
section
variable {X : BX} {H H1 : Hp} {st : Bst} {m : Loc}
theorem t_some {y : String} {ps : List (Key × Int)} (hp : m y = some (.tup (ps.map encP))) (hl : ps.length < 100) : T.cmp .Gt (E.len (E.var y)) (E.const (.int 0)) m H = some (decide (ps ≠ []), H) := by
  refine (t_gt (e_lent (e_var hp) (by rw [List.length_map]; exact Nat.lt_trans hl (by decide))) rfl).trans (congrArg (fun b => some (b, H)) (decide_eq_decide.mpr ?_))
  rw [List.length_map]
  cases ps with
  | nil => exact ⟨fun h => absurd h (by decide), fun h => absurd rfl h⟩
  | cons p ps => exact ⟨fun _ h => (nomatch h), fun _ => Int.natCast_pos.mpr (Nat.succ_pos _)⟩
theorem fresh_if (x : Bld X H st) {y lab : String} {ps : List (Key × Int)} {d : Int} (hs : m "self" = some (.ref X.b)) (hp : m y = some (.tup (ps.map encP))) (hd : m lab = some (.int d)) (hl : ps.length < 100) :
    Run (S.iff (T.cmp .Gt (E.len (E.var y)) (E.const (.int 0))) (S.seq (S.asg lab (E.meth C_BlockBuilder "fresh_label" P.BlockBuilder_fresh_label (E.var "self") [])) S.nil) S.nil m H) fun z => z.1 = .next ∧ (∀ w, w ∉ [lab] → z.2.1 w = m w) ∧ z.2.1 lab = some (.int (freshIf ps d st).1) ∧ To X H (freshIf ps d st).2 z.2.2 := by
  have t := t_some (H := H) hp hl
  unfold S.iff
  by_cases h : ps = []
  · rw [t, decide_eq_false (fun k => k h)]
    unfold freshIf
    rw [if_pos h]
    exact ⟨_, rfl, rfl, fun _ _ => rfl, hd, .refl x⟩
  · rw [t, decide_eq_true h]
    unfold freshIf
    rw [if_neg h]
    exact (fresh_label_ok x).use fun H1 e y => ⟨_, s_asg (e_meth0 (e_var hs) x.obj rfl e) rfl, rfl, loc_upd (.head _) fun _ _ => rfl, upd_self, y⟩
theorem rows_if (x : Bld X H st) {y lab w : String} {ps : List (Key × Int)} {d l : Int} {k : Kind} (hw : w = if k = .co then "switch_on_constant" else "switch_on_structure") (hs : m "self" = some (.ref X.b)) (hp : m y = some (.tup (ps.map encP))) (hm : m lab = some (.int l)) (hd : m "default" = some (.int d)) (hl : ps.length < 100) (hz : st.rows.length < 60000) :
    Run (S.iff (T.cmp .Gt (E.len (E.var y)) (E.const (.int 0))) (S.seq (S.expr (E.lmeth E.opAppend (E.attr C_BlockBuilder "rows" (E.var "self")) [E.tup [E.const (.str "label"), E.var lab]])) (S.seq (S.expr (E.lmeth E.opAppend (E.attr C_BlockBuilder "rows" (E.var "self")) [E.tup [E.const (.str w), E.var y, E.var "default"]])) (S.nil))) S.nil m H) fun z => z.1 = .next ∧ z.2.1 = m ∧ To X H { st with rows := st.rows ++ tabRows ps l k d } z.2.2 := by
  have t := t_some (H := H) hp hl
  unfold S.iff
  by_cases h : ps = []
  · rw [t, decide_eq_false (fun k => k h)]
    unfold tabRows
    rw [if_pos h, List.append_nil]
    exact ⟨_, rfl, rfl, rfl, .refl x⟩
  · rw [t, decide_eq_true h]
    unfold tabRows
    rw [if_neg h]
    subst hw
    refine x.pushS (row := .lab l) (.refl x) (e_var hs) (e_tup (evs2 rfl (e_var hm))) (Nat.lt_trans hz (by decide)) fun H1 y1 => ?_
    refine y1.b.pushS (row := .sw k ps d) (.refl y1.b) (e_var hs) (e_tup (evs3 rfl (e_var hp) (e_var hd))) (by rw [List.length_append]; exact Nat.lt_trans (Nat.add_lt_add_right hz 1) (by decide)) fun H2 y2 => ?_
    have y3 := y1.trans y2
    rw [List.append_assoc] at y3
    exact ⟨_, rfl, rfl, rfl, y3⟩
theorem switch_ok (x : Bld X H st) {q : Nat} {ps : List Nat} (hq : H[q]? = some (.list (nats ps))) (hqo : q ∉ X.own) (hp : ps.length < 100) (hj : ∀ j ∈ ps, j < X.keys.length) (hz : st.chains.length < 400) (hr : st.rows.length < 50000) :
    RunV (P.BlockBuilder_switch [.ref X.b, .ref q] H) .none (To X H (switchF X.keys ps st)) := by
  obtain ⟨kA, kB, kE, kF, _⟩ := sw_lens X.keys ps st
  have bB : (swB X.keys ps st).1.length < 100 := Nat.lt_of_le_of_lt (tableF_len ..).1 hp
  have bC : (swC X.keys ps st).1.length < 100 := Nat.lt_of_le_of_lt (tableF_len ..).1 hp
  have rG := swG_rows X.keys ps st
  refine RunN_fn rfl ?_
  refine (variable_places_ok x hq hp hj).use fun t H1 e1 y1 => ?_
  refine (chain_ok (x.same y1.ext) y1.list (Nat.lt_of_le_of_lt (List.length_filter_le _ _) hp) (by omega)).use fun H2 e2 y2 => ?_
  refine .of (s_asg (e_meth1 (e_var rfl) x.obj rfl (e_meth1 (e_var rfl) x.obj rfl (e_var rfl) e1) e2) rfl) ?_
  have F2 : To X H (swA X.keys ps st).2 H2 := (x.to y1.ext).trans y2
  refine (table_ok F2.b (k := .co) (.inl rfl) (F2.e.get hqo hq) hqo hp hj (by omega)).use fun H3 e3 y3 => ?_
  have F3 : To X H (swB X.keys ps st).2 H3 := F2.trans y3
  refine .of (s_asg (e_meth2 (e_var rfl) F2.b.obj rfl (e_var rfl) rfl e3) rfl) ?_
  refine (table_ok F3.b (k := .st) (.inr rfl) (F3.e.get hqo hq) hqo hp hj (by omega)).use fun H4 e4 y4 => ?_
  have F4 : To X H (swC X.keys ps st).2 H4 := F3.trans y4
  refine .of (s_asg (e_meth2 (e_var rfl) F3.b.obj rfl (e_var rfl) rfl e4) (s_asg (e_var rfl) (s_asg (e_var rfl) rfl))) ?_
  generalize hm : upd _ "struct_label" _ = m
  have L : SwL m X.b q (swA X.keys ps st).1 (swB X.keys ps st).1 (swC X.keys ps st).1 (swA X.keys ps st).1 (swA X.keys ps st).1 := hm ▸ ⟨rfl, rfl, rfl, rfl, rfl, rfl, rfl⟩
  clear hm e1 e2 e3 e4 y1 y2 y3 y4 F2 F3
  refine Run_seq ((fresh_if F4.b (y := "constants") (lab := "const_label") L.self L.cs L.cl bB).mono fun z h => ⟨h.1, ?_⟩)
  obtain ⟨_, m5, H5⟩ := z
  obtain ⟨_, k5, l5, y5⟩ := h
  have F5 : To X H (swD X.keys ps st).2 H5 := F4.trans y5
  have L5 : SwL m5 X.b q (swA X.keys ps st).1 (swB X.keys ps st).1 (swC X.keys ps st).1 (swD X.keys ps st).1 (swA X.keys ps st).1 := ⟨(k5 _ (by decide)).trans L.self, (k5 _ (by decide)).trans L.places, (k5 _ (by decide)).trans L.dflt, (k5 _ (by decide)).trans L.cs, (k5 _ (by decide)).trans L.ss, l5, (k5 _ (by decide)).trans L.sl⟩
  clear k5 l5 y5 F4 L
  refine Run_seq ((fresh_if F5.b (y := "structures") (lab := "struct_label") L5.self L5.ss L5.sl bC).mono fun z h => ⟨h.1, ?_⟩)
  obtain ⟨_, m6, H6⟩ := z
  obtain ⟨_, k6, l6, y6⟩ := h
  have F6 : To X H (swE X.keys ps st).2 H6 := F5.trans y6
  have L6 : SwL m6 X.b q (swA X.keys ps st).1 (swB X.keys ps st).1 (swC X.keys ps st).1 (swD X.keys ps st).1 (swE X.keys ps st).1 := ⟨(k6 _ (by decide)).trans L5.self, (k6 _ (by decide)).trans L5.places, (k6 _ (by decide)).trans L5.dflt, (k6 _ (by decide)).trans L5.cs, (k6 _ (by decide)).trans L5.ss, (k6 _ (by decide)).trans L5.cl, l6⟩
  clear k6 l6 y6 F5 L5
  refine (matching_places_ok F6.b (key := .list) (F6.e.get hqo hq) hp hj).use fun t H7 e7 y7 => ?_
  refine (chain_ok (F6.b.same y7.ext) y7.list (Nat.lt_of_le_of_lt (List.length_filter_le _ _) hp) (by omega)).use fun H8 e8 y8 => ?_
  refine .of (s_asg (e_meth1 (e_var L6.self) F6.b.obj rfl (e_meth2 (e_var L6.self) F6.b.obj rfl (e_var L6.places) rfl e7) e8) rfl) ?_
  have F8 : To X H (swF X.keys ps st).2 H8 := (F6.same y7.ext).trans y8
  generalize hm : upd m6 "list_label" _ = m7
  have L7 : SwL m7 X.b q (swA X.keys ps st).1 (swB X.keys ps st).1 (swC X.keys ps st).1 (swD X.keys ps st).1 (swE X.keys ps st).1 := hm ▸ ⟨L6.self, L6.places, L6.dflt, L6.cs, L6.ss, L6.cl, L6.sl⟩
  have l7 : m7 "list_label" = some (.int (swF X.keys ps st).1) := hm ▸ upd_self
  clear hm e7 e8 y7 y8 F6 L6
  refine (chain_ok F8.b (F8.e.get hqo hq) hp (by omega)).use fun H9 e9 y9 => ?_
  refine F8.b.pushS (row := .swt (swG X.keys ps st).1 (swD X.keys ps st).1 (swF X.keys ps st).1 (swE X.keys ps st).1) y9 (e_var L7.self) (e_tup (evsC rfl (evsC (e_meth1 (e_var L7.self) F8.b.obj rfl (e_var L7.places) e9) (evs3 (e_var L7.cl) (e_var l7) (e_var L7.sl))))) (Nat.lt_of_le_of_lt (Nat.le_of_eq (congrArg List.length rG)) (Nat.lt_trans hr (by decide))) fun H10 y10 => ?_
  have F10 : To X H { (swG X.keys ps st).2 with rows := (swG X.keys ps st).2.rows ++ [.swt (swG X.keys ps st).1 (swD X.keys ps st).1 (swF X.keys ps st).1 (swE X.keys ps st).1] } H10 := F8.trans y10
  clear e9 y9 y10 F8 l7
  have r10 : ((swG X.keys ps st).2.rows ++ [Row.swt (swG X.keys ps st).1 (swD X.keys ps st).1 (swF X.keys ps st).1 (swE X.keys ps st).1]).length < 50001 := by rw [List.length_append, rG]; exact Nat.succ_lt_succ hr
  refine Run_seq ((rows_if F10.b (k := .co) rfl L7.self L7.cs L7.cl L7.dflt bB (Nat.lt_trans r10 (by decide))).mono fun z h => ⟨h.1, ?_⟩)
  obtain ⟨_, m8, H11⟩ := z
  obtain ⟨_, rfl, y11⟩ := h
  have tl : (tabRows (swB X.keys ps st).1 (swD X.keys ps st).1 .co (swA X.keys ps st).1).length ≤ 2 := by unfold tabRows; split; exact Nat.zero_le _; exact Nat.le_refl 2
  refine Run_seq ((rows_if y11.b (k := .st) rfl L7.self L7.ss L7.sl L7.dflt bC (by rw [List.length_append]; exact Nat.lt_trans (Nat.add_lt_add_of_lt_of_le r10 tl) (by decide))).mono fun z h => ⟨h.1, ?_⟩)
  obtain ⟨_, m9, H12⟩ := z
  have y12 := F10.trans (y11.trans h.2.2)
  refine ⟨_, rfl, rfl, ?_⟩
  have e : switchF X.keys ps st = { (swG X.keys ps st).2 with rows := (swG X.keys ps st).2.rows ++ [Row.swt (swG X.keys ps st).1 (swD X.keys ps st).1 (swF X.keys ps st).1 (swE X.keys ps st).1] ++ tabRows (swB X.keys ps st).1 (swD X.keys ps st).1 .co (swA X.keys ps st).1 ++ tabRows (swC X.keys ps st).1 (swE X.keys ps st).1 .st (swA X.keys ps st).1 } := by
    unfold switchF swRows; rw [List.append_assoc, List.append_assoc]; rfl
  rw [e]
  exact y12
end
noncomputable def chainSeg (a : Int) (c : Int × List Nat) : List Row := .lab c.1 :: chainRows a (zs c.2)
noncomputable def clauseSeg (j : Nat) : List Row := [.lab j, .getc j, .proceed]
noncomputable def finRows (a : Int) (keys : List Key) (st : Bst) : List Row := st.rows ++ st.chains.flatMap (chainSeg a) ++ (List.range keys.length).flatMap clauseSeg
theorem two_ends {α : Type} (l : List α) (h : 2 ≤ l.length) : ∃ a r b, l = a :: (r ++ [b]) := by
  cases l with
  | nil => exact absurd h (Nat.not_succ_le_zero 1)
  | cons a l => exact ⟨a, l.dropLast, l.getLast (List.ne_nil_of_length_pos (Nat.le_of_succ_le_succ h)), congrArg (a :: ·) (List.dropLast_concat_getLast _).symm⟩
section
variable {X : BX} {H H1 : Hp} {st st1 : Bst} {m : Loc} {e : Ex} {R : Sx}
/-- for row in e: v.rows.append(row) -/
theorem Bld.appendL {P : Fl × Loc × Hp → Prop} {v : String} {q : Nat} {rws : List Row} (y : To X H st1 H1) (hv : v ∉ ["row"]) (hm : m v = some (.ref X.b)) (he : e m H = some (.ref q, H1)) (hq : H1[q]? = some (.list (rws.map Row.enc))) (hqo : q ∉ X.own) (hz : (st1.rows ++ rws).length < 100000)
    (k : ∀ m2 H2, (∀ z, z ∉ ["row"] → m2 z = m z) → To X H { st1 with rows := st1.rows ++ rws } H2 → Run (R m2 H2) P) : Run (S.seq (S.forIn (S.b1 "row") e (S.seq (S.expr (E.lmeth E.opAppend (E.attr C_BlockBuilder "rows" (E.var v)) [E.var "row"])) S.nil)) R m H) P := by
  refine Run.forL (enc := Row.enc) (l := rws) (fun d m2 H2 => (∀ z, z ∉ ["row"] → m2 z = m z) ∧ To X H1 { st1 with rows := st1.rows ++ d } H2) he hq (fun d m2 H2 h => h.2.e.get hqo hq) ⟨fun _ _ => rfl, by rw [List.append_nil]; exact .refl y.b⟩ (fun d a t m2 H2 h i => ?_) fun m2 H2 i => k m2 H2 i.1 (y.trans i.2)
  have hl := loc_upd (v := a.enc) (.head _) i.1
  refine i.2.b.pushS (row := a) (.refl i.2.b) (e_var ((hl v hv).trans hm)) (e_var upd_self) (Nat.lt_of_le_of_lt ?_ hz) fun H3 y3 => ⟨_, rfl, rfl, hl, ?_⟩
  · rw [h, List.length_append, List.length_append, List.length_append]; exact Nat.add_le_add_left (Nat.le_add_right _ _) _
  · have := i.2.trans y3
    rw [List.append_assoc] at this
    exact this
theorem Bld.instrs (x : Bld X H st) {j : Nat} {k : Key} (e : X.keys[j]? = some k) {o i : Ex} (ho : o m H = some (.ref X.c, H)) (hi : i m H = some (.int j, H)) : ∃ q, E.attr C_ClauseCode "instrs" (E.item o i) m H = some (.ref q, H) ∧ H[q]? = some (.list ([Row.getc j, .proceed].map Row.enc)) ∧ q ∉ X.own := by
  obtain ⟨refs, h1, h2, h3⟩ := x.ok.codes
  obtain ⟨r, a, b⟩ := h3 j k e
  obtain ⟨fs, q, h4, h5, h6, h7⟩ := b.inst
  exact ⟨q, e_attr (e_item ho hi (list_get (x.ext.get h1) (by rw [List.getElem?_map, a]; rfl))) (x.ext.get h4) h6, x.ext.get h7, fun h => Nat.lt_irrefl _ (Nat.lt_of_lt_of_le (lt_of h7) (x.ok.ge q h))⟩
/-- a loop that adds rows -/
structure FL {α : Type} (X : BX) (H : Hp) (st : Bst) (seg : α → List Row) (d : List α) (m2 : Loc) (H2 : Hp) : Prop where
  self : m2 "self" = some (.ref X.b)
  to : To X H { st with rows := st.rows ++ d.flatMap seg } H2
theorem seg_len {α : Type} {st : Bst} {seg : α → List Row} {l d t : List α} {a : α} {n : Nat} (h : l = d ++ a :: t) (hz : (st.rows ++ l.flatMap seg).length < n) : (st.rows ++ d.flatMap seg ++ seg a).length < n := by
  refine Nat.lt_of_le_of_lt ?_ hz
  rw [h, List.flatMap_append, List.flatMap_cons, ← List.append_assoc, ← List.append_assoc, List.length_append (bs := t.flatMap seg)]
  exact Nat.le_add_right _ _
theorem FL.next {α : Type} {seg : α → List Row} {d : List α} {a : α} {m2 : Loc} {H2 : Hp} (h1 : m2 "self" = some (.ref X.b)) (y : To X H { st with rows := st.rows ++ d.flatMap seg ++ seg a } H2) : FL X H st seg (d ++ [a]) m2 H2 :=
  ⟨h1, by rw [List.flatMap_append, List.flatMap_singleton, ← List.append_assoc]; exact y⟩
theorem FL.chain {d : List (Int × List Nat)} {a : Int × List Nat} {m2 : Loc} {H2 : Hp} (x : FL X H st (chainSeg X.a) d m2 H2) (h2 : 2 ≤ a.2.length) (h3 : a.2.length < 100) (hz : (st.rows ++ d.flatMap (chainSeg X.a) ++ chainSeg X.a a).length < 50000) :
    Run ((S.seq (S.expr (E.lmeth E.opAppend (E.attr C_BlockBuilder "rows" (E.var "self")) [E.tup [E.const (.str "label"), E.item (E.var "pair") (E.const (.int 0))]])) (S.seq (S.forIn (S.b1 "row") (E.meth C_BlockBuilder "chain_rows" P.BlockBuilder_chain_rows (E.var "self") [E.item (E.var "pair") (E.const (.int 1))]) (S.seq (S.expr (E.lmeth E.opAppend (E.attr C_BlockBuilder "rows" (E.var "self")) [E.var "row"])) (S.nil))) (S.nil))) (upd m2 "pair" (encC a)) H2) fun z => z.1 = .next ∧ FL X H st (chainSeg X.a) (d ++ [a]) z.2.1 z.2.2 := by
  have hs : upd m2 "pair" (encC a) "self" = some (.ref X.b) := (upd_ne (by decide)).trans x.self
  have hp : upd m2 "pair" (encC a) "pair" = some (encC a) := upd_self
  obtain ⟨l0, r, l1, hr⟩ := two_ends (zs a.2) (by unfold zs; rw [List.length_map]; exact h2)
  have hl : (l0 :: (r ++ [l1])).length < 500 := by rw [← hr]; unfold zs; rw [List.length_map]; exact Nat.lt_trans h3 (by decide)
  have hz1 : (st.rows ++ d.flatMap (chainSeg X.a)).length < 100000 := Nat.lt_of_le_of_lt (by rw [List.length_append (bs := chainSeg X.a a)]; exact Nat.le_add_right _ _) (Nat.lt_trans hz (by decide))
  refine x.to.b.pushS (row := .lab a.1) (.refl x.to.b) (e_var hs) (e_tup (evs2 rfl (e_item0 (e_var hp) (tup_get (n := 0) (by decide) rfl)))) hz1 fun H3 y3 => ?_
  refine (chain_rows_ok y3.b (Lv := .tup (nats a.2)) (.inl (by rw [nats_zs, hr])) hl).use fun q H4 e4 y4 => ?_
  rw [← hr] at y4
  refine Bld.appendL (y3.b.to y4.ext) (by decide) hs (e_meth1 (e_var hs) y3.b.obj rfl (e_item0 (e_var hp) (tup_get (n := 1) (by decide) rfl)) e4) y4.list (fun h => Nat.lt_irrefl _ (Nat.lt_of_lt_of_le (y3.b.lt q h) y4.new)) (by rw [List.append_assoc]; exact Nat.lt_trans hz (by decide)) fun m5 H5 h5 y5 => ⟨_, rfl, rfl, .next ((h5 _ (by decide)).trans hs) ?_⟩
  have := x.to.trans (y3.trans y5)
  rw [List.append_assoc _ [_]] at this
  exact this
theorem FL.clause {d : List Nat} {j : Nat} {m2 : Loc} {H2 : Hp} (x : FL X H st clauseSeg d m2 H2) (hj : j < X.keys.length) (hz : (st.rows ++ d.flatMap clauseSeg ++ clauseSeg j).length < 50000) :
    Run ((S.seq (S.expr (E.lmeth E.opAppend (E.attr C_BlockBuilder "rows" (E.var "self")) [E.tup [E.const (.str "label"), E.var "place"]])) (S.seq (S.forIn (S.b1 "row") (E.attr C_ClauseCode "instrs" (E.item (E.attr C_BlockBuilder "codes" (E.var "self")) (E.var "place"))) (S.seq (S.expr (E.lmeth E.opAppend (E.attr C_BlockBuilder "rows" (E.var "self")) [E.var "row"])) (S.nil))) (S.nil))) (upd m2 "place" (.int j)) H2) fun z => z.1 = .next ∧ FL X H st clauseSeg (d ++ [j]) z.2.1 z.2.2 := by
  have hs : upd m2 "place" (.int j) "self" = some (.ref X.b) := (upd_ne (by decide)).trans x.self
  have hp : upd m2 "place" (.int j) "place" = some (.int j) := upd_self
  have hz1 : (st.rows ++ d.flatMap clauseSeg).length < 100000 := Nat.lt_of_le_of_lt (by rw [List.length_append (bs := clauseSeg j)]; exact Nat.le_add_right _ _) (Nat.lt_trans hz (by decide))
  refine x.to.b.pushS (row := .lab j) (.refl x.to.b) (e_var hs) (e_tup (evs2 rfl (e_var hp))) hz1 fun H3 y3 => ?_
  obtain ⟨q, e4, l4, n4⟩ := y3.b.instrs (m := upd m2 "place" (.int j)) (List.getElem?_eq_getElem hj) (y3.b.attr (f := "codes") (e_var hs) rfl) (e_var hp)
  refine Bld.appendL (.refl y3.b) (by decide) hs e4 l4 n4 (by rw [List.append_assoc]; exact Nat.lt_trans hz (by decide)) fun m5 H5 h5 y5 => ⟨_, rfl, rfl, .next ((h5 _ (by decide)).trans hs) ?_⟩
  have := x.to.trans (y3.trans y5)
  rw [List.append_assoc _ [_]] at this
  exact this
structure FinB (X : BX) (H : Hp) (st : Bst) (H2 : Hp) : Prop where
  rows : H2[X.r]? = some (.list ((finRows X.a X.keys st).map Row.enc))
  ext : Ext X.H0 H2
theorem finish_ok (x : Bld X H st) (hc : ∀ p ∈ st.chains, 2 ≤ p.2.length ∧ p.2.length < 100) (hR : (finRows X.a X.keys st).length < 50000) :
    RunV (P.BlockBuilder_finish [.ref X.b] H) (.ref X.r) (FinB X H st) := by
  refine RunV_fn rfl (Run.forL (enc := encC) (l := st.chains) (FL X H st (chainSeg X.a)) (x.attr (f := "chains") (e_var rfl) rfl) x.chains (fun d m H i => i.to.b.chains) ⟨rfl, by rw [List.flatMap_nil, List.append_nil]; exact .refl x⟩ (fun d a t m H1 h i => ?_) fun m H1 i => ?_)
  · have := hc a (mid_lt h).2
    exact i.chain this.1 this.2 (seg_len h (Nat.lt_of_le_of_lt (by unfold finRows; rw [List.length_append (bs := List.flatMap clauseSeg _)]; exact Nat.le_add_right _ _) hR))
  · refine Run.forN (FL X H { st with rows := st.rows ++ st.chains.flatMap (chainSeg X.a) } clauseSeg) (Nat.lt_trans x.ok.few (by decide)) (e_codes i.to.b.codes (i.to.b.attr (e_var i.self) rfl)) ⟨i.self, by rw [List.flatMap_nil, List.append_nil]; exact i.to⟩ (fun d j t m H1 h i => ?_) fun m H1 i => ?_
    · exact i.clause (range_mem h).1 (seg_len h hR)
    · exact Run.ret (i.to.b.attr (e_var i.self) rfl) ⟨rfl, i.to.b.rows, i.to.b.ext⟩
end
section
variable {H H1 : Hp} {m : Loc} {t t2 : Hp} {o : O}
theorem at_get (k : Nat) : (H ++ t)[H.length + k]? = t[k]? := by rw [List.getElem?_append_right (Nat.le_add_right _ _), Nat.add_sub_cancel_left]
theorem at_set {o' : O} : (H ++ o :: t).set H.length o' = H ++ o' :: t := by rw [List.set_append_right _ _ (Nat.le_refl _), Nat.sub_self]; rfl
theorem e_fresh : E.list [] m (H ++ t) = some (.ref (H.length + t.length), H ++ (t ++ [.list []])) := by rw [e_list0, List.length_append, List.append_assoc]
theorem e_freshD : E.dict0 m (H ++ t) = some (.ref (H.length + t.length), H ++ (t ++ [.dict .emp])) := by
  show some (V.ref (H ++ t).length, (H ++ t) ++ [O.dict .emp]) = _
  rw [List.length_append, List.append_assoc]
/-- self.f = e, in an init -/
theorem s_init {C : Addr} {f : String} {fs fs2 : List (String × V)} {e : Ex} {X : V} (hm : m "self" = some (.ref H.length)) (hl : fs.length < 50) (he : e m (H ++ .inst C fs :: t) = some (X, H ++ .inst C fs :: t2)) (hp : E.putF f X fs = fs2) : S.asgAttr C f (E.var "self") e m (H ++ .inst C fs :: t) = some (.next, m, H ++ .inst C fs2 :: t2) :=
  (s_attr he (e_var hm) (at_get 0) hl).trans (by rw [at_set, hp])
theorem Ext.set_new {n : Nat} (x : Ext H H1) (h : H.length ≤ n) : Ext H (H1.set n o) := ExtB.fresh (r := n) (ExtB.trans (Ext.any x) (.set (.head _))) h
/-- a new builder -/
noncomputable def newX (H : Hp) (a : Int) (c : Nat) (keys : List Key) : BX := ⟨H, H.length, H.length + 1, H.length + 2, H.length + 3, a, c, keys⟩
variable {a : Int} {c : Nat} {keys : List Key}
theorem newX_ok (hc : Codes H c keys) (few : keys.length < 100) : (newX H a c keys).Ok :=
  have ne : ∀ {i j : Nat}, i < j → H.length + i ≠ H.length + j := fun h => Nat.ne_of_lt (Nat.add_lt_add_left h _)
  have ge : ∀ s ∈ (newX H a c keys).own, H.length ≤ s := fun s h => by
    rcases h with _ | ⟨_, _ | ⟨_, _ | ⟨_, _ | ⟨_, h⟩⟩⟩⟩
    · exact Nat.le_refl _
    · exact Nat.le_add_right _ 1
    · exact Nat.le_add_right _ 2
    · exact Nat.le_add_right _ 3
    · cases h
  ⟨hc, ge, ⟨⟨ne (i := 0) (by decide), ne (i := 0) (by decide), ne (i := 0) (by decide)⟩, ⟨ne (by decide), ne (by decide)⟩, ne (by decide)⟩, few⟩
theorem init_ok (hc : Codes H c keys) (few : keys.length < 100) : RunV (P.BlockBuilder_init [.ref H.length, .int a, .ref c] (H ++ [.inst C_BlockBuilder []])) .none fun H2 => Bld (newX H a c keys) H2 ⟨[], [], keys.length⟩ := by
  have cl : ∀ {m : Loc} {t : Hp}, m "codes" = some (.ref c) → E.len (E.var "codes") m (H ++ t) = some (.int keys.length, H ++ t) := fun h => e_codes (hc.ext .app) (e_var h)
  refine RunN_fn rfl ⟨_, s_one (s_init rfl (by decide) (X := .int a) rfl rfl) (s_one (s_init rfl (show 1 < 50 by decide) (X := .ref c) rfl rfl) (s_one (s_init rfl (show 2 < 50 by decide) e_fresh rfl) (s_one (s_init rfl (show 3 < 50 by decide) e_fresh rfl) (s_one (s_init rfl (show 4 < 50 by decide) e_freshD rfl) (s_one (s_init rfl (show 5 < 50 by decide) (cl rfl) rfl) rfl))))), rfl, ?_⟩
  exact ⟨newX_ok hc few, .app, at_get 0, at_get 1, at_get 2, .emp, at_get 3, .inl ⟨rfl, rfl⟩⟩
/-- BlockBuilder(arity, codes) -/
theorem new_builder {x y : Ex} (hx : x m H = some (.int a, H)) (hy : y m H = some (.ref c, H)) (hc : Codes H c keys) (few : keys.length < 100) :
    RunV (E.new C_BlockBuilder P.BlockBuilder_init [x, y] m H) (.ref (newX H a c keys).b) fun H2 => Bld (newX H a c keys) H2 ⟨[], [], keys.length⟩ :=
  (init_ok hc few).use fun H2 e b => ⟨H2, e_new (evs2 hx hy) e, b⟩
noncomputable def avS : Sx := S.seq (S.iff (T.cmp .NotEq (E.attr C_ClauseCode "key" (E.var "code")) (E.const (.tup [.str "var"]))) (S.seq (S.ret (E.const (.bool false))) (S.nil)) (S.nil)) (S.nil)
theorem all_variable_ok (hc : Codes H c keys) : P.all_variable [.ref c] H = some (.bool (keys.all fun k => decide (k = .var)), H) := by
  obtain ⟨refs, hr, hl, hk⟩ := hc
  have go : ∀ (rs : List Nat) (ks : List Key) (m : Loc), rs.length = ks.length → (∀ (j : Nat) k, ks[j]? = some k → ∃ (r j' : Nat), rs[j]? = some r ∧ CodeAt H j' r k) → ∃ m2, S.turns (S.stillIs (.ref c) (refs.map V.ref)) (S.b1 "code") avS (rs.map V.ref) m H = some (if (ks.all fun k => decide (k = .var)) = true then .next else .ret (.bool false), m2, H) := by
    intro rs
    induction rs with
    | nil =>
      intro ks m h1 h2
      cases ks with
      | cons k ks => cases h1
      | nil => exact ⟨m, if_pos (stillIs_ref hr)⟩
    | cons r rs ih =>
      intro ks m h1 h2
      cases ks with
      | nil => cases h1
      | cons k ks =>
        obtain ⟨r', j', e, ca⟩ := h2 0 k rfl
        cases e
        obtain ⟨fs, q, h4, h5, h6, h7⟩ := ca.inst
        have t : T.cmp .NotEq (E.attr C_ClauseCode "key" (E.var "code")) (E.const (.tup [.str "var"])) (upd m "code" (.ref r)) H = some (!decide (k = .var), H) := t_cmp (e_attr (e_var upd_self) h4 h5) rfl (by unfold cmpV; rw [eqV_key_var]; rfl)
        rw [List.map_cons, List.all_cons]
        by_cases hv : k = .var
        · obtain ⟨m2, e2⟩ := ih ks (upd m "code" (.ref r)) (Nat.succ.inj h1) fun j k h => h2 (j + 1) k h
          rw [decide_eq_true hv] at t ⊢
          refine ⟨m2, Eq.trans (if_pos (stillIs_ref hr)) ?_⟩
          show (avS (upd m "code" (.ref r)) H).bind _ = _
          rw [show avS _ H = _ from s_skip t rfl]
          exact e2
        · rw [decide_eq_false hv] at t ⊢
          refine ⟨upd m "code" (.ref r), Eq.trans (if_pos (stillIs_ref hr)) ?_⟩
          show (avS (upd m "code" (.ref r)) H).bind _ = _
          rw [show avS _ H = _ from s_iffT t (s_assoc.trans (s_ret rfl))]
          rfl
  obtain ⟨m2, e⟩ := go refs keys (args ["codes"] [.ref c]) hl fun j k h => let ⟨r, a, b⟩ := hk j k h; ⟨r, j, a, b⟩
  have he : S.forIn (S.b1 "code") (E.var "codes") avS (args ["codes"] [.ref c]) H = some (if (keys.all fun k => decide (k = .var)) = true then .next else .ret (.bool false), m2, H) := by
    unfold S.forIn
    simp only [e_var (m := args ["codes"] [.ref c]) (x := "codes") (X := .ref c) (H := H) rfl, Option.bind_some, S.items, hr]
    exact e
  refine Run_eq (Run_fn rfl ?_)
  cases hb : keys.all fun k => decide (k = .var) with
  | true => rw [hb] at he; exact .of (s_one he (s_ret rfl)) ⟨_, rfl, rfl⟩
  | false => rw [hb] at he; exact .of (s_stop he) ⟨_, rfl, rfl⟩
end
noncomputable def SymAt (H : Hp) (s f : Nat) (w : Int) : Prop := ∃ (fs : List (String × V)) (F : Nat) (fl : List V) (x : V), H[s]? = some (.inst C_Symbols fs) ∧ fs.lookup "functors" = some (.ref F) ∧ fs.lookup "arity" = none ∧ H[F]? = some (.list fl) ∧ fl[f]? = some (.tup [x, .int w])
theorem SymAt.ext {H H' : Hp} {s f : Nat} {w : Int} (x : SymAt H s f w) (e : Ext H H') : SymAt H' s f w := by
  obtain ⟨fs, F, fl, y, h1, h2, h0, h3, h4⟩ := x
  exact ⟨fs, F, fl, y, e.get h1, h2, h0, e.get h3, h4⟩
/-- symbols.arity(functor) -/
theorem e_arity {H : Hp} {m : Loc} {s f : Nat} {w : Int} {x y : String} (h : SymAt H s f w) (hs : m x = some (.ref s)) (hf : m y = some (.int f)) : E.meth C_Symbols "arity" P.Symbols_arity (E.var x) [E.var y] m H = some (.int w, H) := by
  obtain ⟨fs, F, fl, z, h1, h2, h0, h3, h4⟩ := h
  refine e_meth1 (e_var hs) h1 h0 (e_var hf) (Run_eq (Run_fn rfl (.of (s_ret (e_item0 (e_item (e_attr (e_var rfl) h1 h2) (e_var rfl) (list_get h3 h4)) (tup_get (n := 1) (by decide) rfl))) ⟨_, rfl, rfl⟩)))
noncomputable def b0 (keys : List Key) : Bst := ⟨[], [], keys.length⟩
noncomputable def chainBlock (w : Int) (keys : List Key) : List Row := finRows w keys ⟨chainRows w (zs (List.range keys.length)), [], keys.length⟩
noncomputable def indexBlock (w : Int) (keys : List Key) : List Row := if (keys.all fun k => decide (k = .var)) = true then chainBlock w keys else finRows w keys (switchF keys (List.range keys.length) (b0 keys))
/-- a new block -/
structure NewB (H : Hp) (rows : List Row) (q : Nat) (H2 : Hp) : Prop where
  ext : Ext H H2
  list : H2[q]? = some (.list (rows.map Row.enc))
theorem chTail_len : ∀ l : List Int, (chTail l).length = l.length
  | [] => rfl
  | [_] => rfl
  | _ :: y :: l => congrArg Nat.succ (chTail_len (y :: l))
theorem few_rows (w : Int) (ls : List Int) : (chainRows w ls).length = ls.length := by
  cases ls with
  | nil => rfl
  | cons l ls => exact congrArg Nat.succ (chTail_len ls)
theorem zs_len (ps : List Nat) : (zs ps).length = ps.length := List.length_map _
theorem clauseSegs_len (n : Nat) : ((List.range n).flatMap clauseSeg).length = 3 * n := by
  induction n with
  | zero => rfl
  | succ n ih => rw [List.range_succ, List.flatMap_append, List.length_append, ih]; rfl
section
variable {H H1 : Hp} {m : Loc} {c s f n : Nat} {w : Int} {keys : List Key} {a : Ex} {A B R : Sx} {P : Fl × Loc × Hp → Prop}
theorem e_listRange (h : a m H = some (.int n, H1)) (hn : n < 100000) : E.listRange a m H = some (.ref H1.length, H1 ++ [.list (nats (List.range n))]) := by
  unfold E.listRange
  rw [h]
  show (if sm (-1) 1000001 (n : Int) = true then _ else _) = _
  rw [if_pos (nat_sm hn (by decide) (by decide)), rangeVs_nats]
/-- the block is not small -/
theorem not_small (hc : Codes H c keys) (mc : m "codes" = some (.ref c)) (h2 : 2 ≤ keys.length) (h : Run (R m H) P) : Run (S.seq (S.iff (T.cmp .Lt (E.len (E.var "codes")) (E.const (.int 2))) A S.nil) R m H) P :=
  .of (s_skip ((t_lt (e_codes hc (e_var mc)) rfl).trans (by rw [decide_eq_false (by omega)])) rfl) h
theorem chain_block_ok (hc : Codes H c keys) (hs : SymAt H s f w) (h2 : 2 ≤ keys.length) (few : keys.length < 100) :
    RunR (Mine.P.chain_block [.ref s, .int f, .ref c] H) (NewB H (chainBlock w keys)) := by
  refine RunR_fn rfl (not_small hc rfl h2 ?_)
  refine (new_builder (m := args ["symbols", "functor", "codes"] [.ref s, .int f, .ref c]) (e_arity (x := "symbols") (y := "functor") hs rfl rfl) (e_var (x := "codes") rfl) hc few).use fun H1 e1 x => .of (s_asg e1 rfl) ?_
  clear e1
  have hb : upd (args ["symbols", "functor", "codes"] [.ref s, .int f, .ref c]) "builder" (.ref (newX H w c keys).b) "builder" = some (.ref (newX H w c keys).b) := rfl
  have hl := e_listRange (e_codes (o := E.var "codes") (m := upd (args ["symbols", "functor", "codes"] [.ref s, .int f, .ref c]) "builder" (.ref (newX H w c keys).b)) (hc.ext x.ext) (e_var rfl)) (Nat.lt_trans few (by decide))
  generalize upd (args ["symbols", "functor", "codes"] [.ref s, .int f, .ref c]) "builder" (.ref (newX H w c keys).b) = m at *
  have e2 : Ext H1 (H1 ++ [.list (nats (List.range keys.length))]) := .push
  have x2 := x.to e2
  obtain ⟨l0, r, l1, hr⟩ := two_ends (zs (List.range keys.length)) (by rw [zs_len, List.length_range]; exact h2)
  have hz : (l0 :: (r ++ [l1])).length = keys.length := by rw [← hr, zs_len, List.length_range]
  refine (chain_rows_ok x2.b (Lv := .ref H1.length) (.inr ⟨_, rfl, by rw [← hr, ← nats_zs]; exact get_new⟩) (by rw [hz]; exact Nat.lt_trans few (by decide))).use fun q H2 e3 y => ?_
  rw [← hr] at y hz
  refine Bld.appendL (x2.same y.ext) (by decide) hb (e_meth1 (e_var hb) x.obj rfl hl e3) y.list (fun h => Nat.lt_irrefl _ (Nat.lt_of_lt_of_le (x2.b.lt q h) y.new)) (by rw [List.nil_append, few_rows, hz]; exact Nat.lt_trans few (by decide)) fun m2 H3 hm z => ?_
  refine (finish_ok z.b (fun p hp => nomatch hp) ?_).use fun H4 e4 u => Run.ret (e_meth0 (e_var ((hm _ (by decide)).trans hb)) z.b.obj rfl e4) ⟨_, rfl, u.ext, u.rows⟩
  unfold finRows
  rw [List.length_append, List.length_append, List.nil_append, few_rows, hz]
  show _ + _ + ((List.range keys.length).flatMap clauseSeg).length < 50000
  rw [clauseSegs_len]
  show _ + 0 + _ < _
  omega
end
theorem chainF_all {Q : List Nat → Prop} {st : Bst} {ps : List Nat} (h : ∀ p ∈ st.chains, Q p.2) (hp : 2 ≤ ps.length → Q ps) : ∀ p ∈ (chainF st ps).2.chains, Q p.2 :=
  chainF_cases (Q := fun c => ∀ p ∈ c.2.chains, Q p.2) st ps (fun _ => h) fun h2 p hm => (List.mem_append.mp hm).elim (h p) fun e => List.mem_singleton.mp e ▸ hp h2
theorem tableF_all {Q : List Nat → Prop} {st : Bst} {keys : List Key} {ps : List Nat} {k : Kind} (h : ∀ p ∈ st.chains, Q p.2) (hp : ∀ key, 2 ≤ (mpl keys ps key).length → Q (mpl keys ps key)) : ∀ p ∈ (tableF keys ps k st).2.chains, Q p.2 :=
  tableF_ind (Q := fun s => ∀ p ∈ s.chains, Q p.2) (fun _ key h => chainF_all h (hp key)) h
theorem switchF_all {Q : List Nat → Prop} {st : Bst} {keys : List Key} {ps : List Nat} (h : ∀ p ∈ st.chains, Q p.2) (hv : 2 ≤ (vpl keys ps).length → Q (vpl keys ps)) (hm : ∀ key, 2 ≤ (mpl keys ps key).length → Q (mpl keys ps key)) (ha : 2 ≤ ps.length → Q ps) :
    ∀ p ∈ (switchF keys ps st).chains, Q p.2 := by
  have hC : ∀ p ∈ (swC keys ps st).2.chains, Q p.2 := tableF_all (tableF_all (chainF_all h hv) hm) hm
  have hE : ∀ p ∈ (swE keys ps st).2.chains, Q p.2 := by unfold swE; rw [freshIf_chains]; unfold swD; rw [freshIf_chains]; exact hC
  exact chainF_all (chainF_all hE (hm _)) ha
theorem tabRows_len (ps : List (Key × Int)) (l : Int) (k : Kind) (d : Int) : (tabRows ps l k d).length ≤ 2 := by unfold tabRows; split; exact Nat.zero_le _; exact Nat.le_refl 2
theorem switchF_len (keys : List Key) (ps : List Nat) (st : Bst) : (switchF keys ps st).chains.length ≤ st.chains.length + 2 * ps.length + 3 ∧ (switchF keys ps st).rows.length ≤ st.rows.length + 5 := by
  refine ⟨Nat.le_trans (sw_lens keys ps st).2.2.2.2 (by omega), ?_⟩
  show ((swG keys ps st).2.rows ++ _ :: (_ ++ _)).length ≤ _
  rw [List.length_append, swG_rows, List.length_cons, List.length_append]
  exact Nat.add_le_add_left (Nat.succ_le_succ (Nat.add_le_add (tabRows_len ..) (tabRows_len ..))) _
theorem chainSegs_len (a : Int) : ∀ cs : List (Int × List Nat), (∀ p ∈ cs, p.2.length < 100) → (cs.flatMap (chainSeg a)).length ≤ 101 * cs.length := by
  intro cs
  induction cs with
  | nil => exact fun _ => Nat.le_refl _
  | cons c cs ih =>
    intro h
    have h3 : (chainSeg a c).length = c.2.length + 1 := by unfold chainSeg; rw [List.length_cons, few_rows, zs_len]
    rw [List.flatMap_cons, List.length_append, h3, List.length_cons, Nat.mul_succ, Nat.add_comm (101 * _)]
    exact Nat.add_le_add (Nat.succ_le_succ (Nat.le_of_lt (h c List.mem_cons_self))) (ih fun p hp => h p (List.mem_cons_of_mem _ hp))
theorem fin_len {a : Int} {keys : List Key} {st : Bst} (h : ∀ p ∈ st.chains, p.2.length < 100) : (finRows a keys st).length ≤ st.rows.length + 101 * st.chains.length + 3 * keys.length := by
  unfold finRows
  rw [List.length_append, List.length_append, clauseSegs_len]
  exact Nat.add_le_add_right (Nat.add_le_add_left (chainSegs_len a _ h) _) _
theorem mpl_le (keys : List Key) (ps : List Nat) (key : Key) : (mpl keys ps key).length ≤ ps.length := List.length_filter_le _ _
theorem vpl_le (keys : List Key) (ps : List Nat) : (vpl keys ps).length ≤ ps.length := List.length_filter_le _ _
theorem sw_chains {st : Bst} {keys : List Key} {ps : List Nat} (h : ∀ p ∈ st.chains, 2 ≤ p.2.length ∧ p.2.length < 100) (hp : ps.length < 100) : ∀ p ∈ (switchF keys ps st).chains, 2 ≤ p.2.length ∧ p.2.length < 100 :=
  switchF_all (Q := fun l => 2 ≤ l.length ∧ l.length < 100) h (fun x => ⟨x, Nat.lt_of_le_of_lt (vpl_le _ _) hp⟩) (fun key x => ⟨x, Nat.lt_of_le_of_lt (mpl_le _ _ _) hp⟩) fun x => ⟨x, hp⟩
/-- a switch from a new builder, finished -/
theorem sw_fin {w : Int} {keys : List Key} {ps : List Nat} {st : Bst} (hc : st.chains = []) (hr : st.rows.length ≤ 10) (hp : ps.length < 100) (few : keys.length < 100) : (finRows w keys (switchF keys ps st)).length < 50000 := by
  have h3 := fin_len (a := w) (keys := keys) (st := switchF keys ps st) fun p hp' => (sw_chains (st := st) (keys := keys) (fun p h => by rw [hc] at h; exact nomatch h) hp p hp').2
  have h4 := switchF_len keys ps st
  rw [hc, List.length_nil] at h4
  omega
section
variable {H H1 : Hp} {m : Loc} {c s f : Nat} {w : Int} {keys : List Key} {R : Sx}
/-- no clause's key is a variable's: then the chain of all -/
theorem all_var {Q : Fl × Loc × Hp → Prop} (hc : Codes H c keys) (hs : SymAt H s f w) (hw : w ≠ 0) (h2 : 2 ≤ keys.length) (few : keys.length < 100) (h1 : (keys.all fun k => decide (k = .var)) = true → ∀ q H2, NewB H (chainBlock w keys) q H2 → Q (.ret (.ref q), args ["symbols", "functor", "codes"] [.ref s, .int f, .ref c], H2))
    (h : (keys.all fun k => decide (k = .var)) = false → Run (R (args ["symbols", "functor", "codes"] [.ref s, .int f, .ref c]) H) Q) :
    Run (S.seq (S.iff (T.or [T.cmp .Eq (E.meth C_Symbols "arity" P.Symbols_arity (E.var "symbols") [E.var "functor"]) (E.const (.int 0)), T.of (E.call P.all_variable [E.var "codes"])]) (S.seq (S.ret (E.call P.chain_block [E.var "symbols", E.var "functor", E.var "codes"])) (S.nil)) (S.nil)) R (args ["symbols", "functor", "codes"] [.ref s, .int f, .ref c]) H) Q := by
  refine Run.iff (t_or2 (t_eqi (e_arity hs rfl rfl)) (e_t (e_call1 (e_var rfl) (all_variable_ok hc)))) (fun e => ?_) fun e => ?_
  · rw [decide_eq_false hw, Bool.false_or] at e
    exact (chain_block_ok hc hs h2 few).use fun q H2 e1 y => ⟨_, s_assoc.trans (s_ret (e_call3 (e_var rfl) (e_var rfl) (e_var rfl) e1)), h1 e q H2 y⟩
  · rw [decide_eq_false hw, Bool.false_or] at e
    exact h e
theorem index_block_ok (hc : Codes H c keys) (hs : SymAt H s f w) (hw : w ≠ 0) (h2 : 2 ≤ keys.length) (few : keys.length < 100) :
    RunR (P.index_block [.ref s, .int f, .ref c] H) (NewB H (indexBlock w keys)) := by
  refine RunR_fn rfl (not_small hc rfl h2 (all_var hc hs hw h2 few (fun h q H2 y => ⟨q, rfl, by unfold indexBlock; rw [if_pos h]; exact y⟩) fun h => ?_))
  have hi : indexBlock w keys = finRows w keys (switchF keys (List.range keys.length) (b0 keys)) := if_neg (by rw [h]; decide)
  rw [hi]
  refine (new_builder (m := args ["symbols", "functor", "codes"] [.ref s, .int f, .ref c]) (e_arity (x := "symbols") (y := "functor") hs rfl rfl) (e_var (x := "codes") rfl) hc few).use fun H1 e1 x => .of (s_asg e1 rfl) ?_
  clear e1
  have hb : upd (args ["symbols", "functor", "codes"] [.ref s, .int f, .ref c]) "builder" (.ref (newX H w c keys).b) "builder" = some (.ref (newX H w c keys).b) := rfl
  have hl := e_listRange (e_codes (o := E.var "codes") (m := upd (args ["symbols", "functor", "codes"] [.ref s, .int f, .ref c]) "builder" (.ref (newX H w c keys).b)) (hc.ext x.ext) (e_var rfl)) (Nat.lt_trans few (by decide))
  generalize upd (args ["symbols", "functor", "codes"] [.ref s, .int f, .ref c]) "builder" (.ref (newX H w c keys).b) = m at *
  have x2 := x.to (H1 := H1 ++ [.list (nats (List.range keys.length))]) .push
  have hp : (List.range keys.length).length < 100 := by rw [List.length_range]; exact few
  refine (switch_ok x2.b (q := H1.length) get_new (fun h => Nat.lt_irrefl _ (x.lt _ h)) hp (fun j hj => List.mem_range.mp hj) (show 0 < 400 by decide) (show 0 < 50000 by decide)).use fun H2 e2 y => ?_
  refine .of (s_expr (e_meth1 (e_var hb) x.obj rfl hl e2) rfl) ?_
  exact (finish_ok y.b (sw_chains (fun p hp => nomatch hp) hp) (sw_fin rfl (Nat.zero_le _) hp few)).use fun H4 e4 u => Run.ret (e_meth0 (e_var hb) y.b.obj rfl e4) ⟨_, rfl, u.ext, u.rows⟩
end
noncomputable def grpStep (keys : List Key) (acc : List (List Nat) × List Nat) (j : Nat) : List (List Nat) × List Nat :=
  if keys[j]? = some .var then (if acc.2 = [] then (acc.1 ++ [[j]], []) else (acc.1 ++ [acc.2] ++ [[j]], [])) else (acc.1, acc.2 ++ [j])
noncomputable def grpEnd (acc : List (List Nat) × List Nat) : List (List Nat) := if acc.2 = [] then acc.1 else acc.1 ++ [acc.2]
noncomputable def groupsF (keys : List Key) : List (List Nat) := grpEnd ((List.range keys.length).foldl (grpStep keys) ([], []))
noncomputable def GrpAt (H : Hp) (refs : List Nat) (grps : List (List Nat)) : Prop := refs.length = grps.length ∧ ∀ (i : Nat) (ps : List Nat), grps[i]? = some ps → ∃ u : Nat, refs[i]? = some u ∧ H[u]? = some (O.list (nats ps))
section
variable {H0 H H' : Hp} {c s f : Nat} {a w : Int} {keys : List Key}
theorem GrpAt.ext {refs : List Nat} {grps : List (List Nat)} (x : GrpAt H refs grps) (e : Ext H H') : GrpAt H' refs grps := ⟨x.1, fun i ps h => let ⟨u, a, b⟩ := x.2 i ps h; ⟨u, a, e.get b⟩⟩
theorem GrpAt.extB {S : List Nat} {refs : List Nat} {grps : List (List Nat)} (x : GrpAt H refs grps) (e : ExtB S H H') (h : ∀ u ∈ refs, u ∉ S) : GrpAt H' refs grps := ⟨x.1, fun i ps hi => let ⟨u, a, b⟩ := x.2 i ps hi; ⟨u, a, e.get (h u (List.mem_of_getElem? a)) b⟩⟩
theorem GrpAt.set {refs : List Nat} {grps : List (List Nat)} (x : GrpAt H refs grps) {t : Nat} {o : O} (ht : t ∉ refs) : GrpAt (H.set t o) refs grps := x.extB (S := [t]) (.set (.head _)) fun u hu h => ht (List.mem_singleton.mp h ▸ hu)
theorem snoc_get {α : Type} {l : List α} {a b : α} {i : Nat} (h : (l ++ [a])[i]? = some b) : (i = l.length ∧ b = a) ∨ l[i]? = some b := by
  rcases Nat.lt_trichotomy i l.length with q | q | q
  · rw [List.getElem?_append_left q] at h; exact .inr h
  · rw [q, List.getElem?_concat_length] at h; exact .inl ⟨q, (Option.some.inj h).symm⟩
  · have := (List.getElem?_eq_some_iff.mp h).1
    rw [List.length_append] at this
    exact absurd this (Nat.not_lt.mpr q)
theorem GrpAt.snoc {refs : List Nat} {grps : List (List Nat)} (x : GrpAt H refs grps) {t : Nat} {ps : List Nat} (h : H[t]? = some (.list (nats ps))) : GrpAt H (refs ++ [t]) (grps ++ [ps]) := ⟨by rw [List.length_append, List.length_append, x.1]; rfl, fun i qs hi => by
  rcases snoc_get hi with ⟨rfl, rfl⟩ | hi
  · exact ⟨t, by rw [← x.1, List.getElem?_concat_length], h⟩
  · obtain ⟨u, a, b⟩ := x.2 i qs hi
    exact ⟨u, by rw [List.getElem?_append_left (List.getElem?_eq_some_iff.mp a).1]; exact a, b⟩⟩
/-- the heap of clause_groups -/
structure GH (H H' : Hp) (refs : List Nat) (t : Nat) (acc : List (List Nat) × List Nat) : Prop where
  rt : H'[t]? = some (.list (nats acc.2))
  gl : H'[H.length]? = some (.list (refs.map .ref))
  grp : GrpAt H' refs acc.1
  tr : t ∉ refs
  tg : H.length < t
  rg : ∀ u ∈ refs, H.length < u ∧ u < H'.length
  ext : Ext H H'
section
variable {refs : List Nat} {t j : Nat} {acc : List (List Nat) × List Nat} {gs : List (List Nat)}
theorem GH.no (x : GH H H' refs t acc) : H.length ∉ refs := fun h => Nat.lt_irrefl _ (x.rg _ h).1
/-- groups.append(run) -/
theorem GH.end_ (x : GH H H' refs t acc) : GrpAt (H'.set H.length (O.list (refs.map V.ref ++ [V.ref t]))) (refs ++ [t]) (acc.1 ++ [acc.2]) ∧ (H'.set H.length (O.list (refs.map V.ref ++ [V.ref t])))[H.length]? = some (O.list ((refs ++ [t]).map V.ref)) :=
  ⟨(x.grp.set x.no).snoc ((List.getElem?_set_ne (Nat.ne_of_lt x.tg)).trans x.rt), by rw [get_set x.gl, List.map_append]; rfl⟩
theorem GH.rg' (x : GH H H' refs t acc) : ∀ u ∈ refs ++ [t], H.length < u ∧ u < H'.length := fun u hu => (List.mem_append.mp hu).elim (x.rg u) fun h => List.mem_singleton.mp h ▸ ⟨x.tg, lt_of x.rt⟩
/-- groups.append(run); run = [] -/
theorem GH.flush (x : GH H H' refs t acc) : GH H (H'.set H.length (O.list (refs.map V.ref ++ [V.ref t])) ++ [O.list []]) (refs ++ [t]) (H'.set H.length (O.list (refs.map V.ref ++ [V.ref t]))).length (acc.1 ++ [acc.2], []) :=
  have e : Ext (H'.set H.length (O.list (refs.map V.ref ++ [V.ref t]))) (H'.set H.length (O.list (refs.map V.ref ++ [V.ref t])) ++ [O.list []]) := .push
  have l : (H'.set H.length (O.list (refs.map V.ref ++ [V.ref t]))).length = H'.length := List.length_set
  ⟨get_new, e.get x.end_.2, x.end_.1.ext e, fun h => Nat.lt_irrefl _ (l ▸ (x.rg' _ h).2), l ▸ lt_of x.gl, fun u hu => ⟨(x.rg' u hu).1, by rw [List.length_append, l]; exact Nat.lt_succ_of_lt (x.rg' u hu).2⟩, (x.ext.set_new (Nat.le_refl _)).trans e⟩
/-- groups.append([place]) -/
theorem GH.single (x : GH H H' refs t (gs, [])) : GH H ((H' ++ [O.list [V.int j]]).set H.length (O.list (refs.map V.ref ++ [V.ref H'.length]))) (refs ++ [H'.length]) t (gs ++ [[j]], []) :=
  have e : Ext H' (H' ++ [.list [.int j]]) := .push
  have gl := e.get x.gl
  have lt := lt_of x.gl
  ⟨(List.getElem?_set_ne (Nat.ne_of_lt x.tg)).trans (e.get x.rt), by rw [get_set gl, List.map_append]; rfl, GrpAt.snoc (ps := [j]) ((x.grp.ext e).set x.no) ((List.getElem?_set_ne (Nat.ne_of_lt lt)).trans get_new), fun h => (List.mem_append.mp h).elim x.tr fun h => Nat.ne_of_lt (lt_of x.rt) (List.mem_singleton.mp h), x.tg,
    fun u hu => (List.mem_append.mp hu).elim (fun h => ⟨(x.rg u h).1, by rw [List.length_set, List.length_append]; exact Nat.lt_succ_of_lt (x.rg u h).2⟩) fun h => by rw [List.mem_singleton.mp h, List.length_set, List.length_append]; exact ⟨lt, Nat.lt_succ_self _⟩, Ext.set_new (x.ext.trans e) (Nat.le_refl _)⟩
/-- run.append(place) -/
theorem GH.run (x : GH H H' refs t acc) : GH H (H'.set t (.list (nats acc.2 ++ [.int j]))) refs t (acc.1, acc.2 ++ [j]) :=
  ⟨(get_set x.rt).trans (by rw [nats_append]; rfl), (List.getElem?_set_ne (Nat.ne_of_gt x.tg)).trans x.gl, x.grp.set x.tr, x.tr, x.tg, fun u hu => ⟨(x.rg u hu).1, by rw [List.length_set]; exact (x.rg u hu).2⟩, x.ext.set_new (Nat.le_of_lt x.tg)⟩
end
structure GL (H : Hp) (c t : Nat) (m : Loc) : Prop where
  codes : m "codes" = some (.ref c)
  groups : m "groups" = some (.ref H.length)
  run : m "run" = some (.ref t)
theorem grp_len (keys : List Key) : ∀ (qs : List Nat) (acc : List (List Nat) × List Nat), (qs.foldl (grpStep keys) acc).1.length ≤ acc.1.length + 2 * qs.length ∧ (qs.foldl (grpStep keys) acc).2.length ≤ acc.2.length + qs.length := by
  intro qs
  induction qs with
  | nil => exact fun _ => ⟨Nat.le_refl _, Nat.le_refl _⟩
  | cons j qs ih =>
    intro acc
    have h : (grpStep keys acc j).1.length ≤ acc.1.length + 2 ∧ (grpStep keys acc j).2.length ≤ acc.2.length + 1 := by
      unfold grpStep
      split
      · split
        · exact ⟨by rw [List.length_append]; exact Nat.le_succ _, Nat.zero_le _⟩
        · exact ⟨by rw [List.length_append, List.length_append]; exact Nat.le_refl _, Nat.zero_le _⟩
      · exact ⟨Nat.le_add_right _ 2, by rw [List.length_append]; exact Nat.le_refl _⟩
    have i := ih (grpStep keys acc j)
    rw [List.foldl_cons, List.length_cons]
    exact ⟨Nat.le_trans i.1 (by omega), Nat.le_trans i.2 (by omega)⟩
theorem t_run {m : Loc} {y : String} {u : Nat} {qs : List Nat} (hm : m y = some (.ref u)) (h : H[u]? = some (.list (nats qs))) : T.cmp .Gt (E.len (E.var y)) (E.const (.int 0)) m H = some (decide (qs ≠ []), H) := by
  refine (t_gt (e_len (e_var hm) h) rfl).trans (congrArg (fun b => some (b, H)) (decide_eq_decide.mpr ?_))
  rw [nats_len]
  cases qs with
  | nil => exact ⟨fun h => absurd h (by decide), fun h => absurd rfl h⟩
  | cons p ps => exact ⟨fun _ h => (nomatch h), fun _ => Int.natCast_pos.mpr (Nat.succ_pos _)⟩
theorem groups_step {m : Loc} {refs : List Nat} {t j : Nat} {acc : List (List Nat) × List Nat} (hc : Codes H c keys) (hj : j < keys.length) (l : GL H c t m) (x : GH H H' refs t acc) (h1 : acc.1.length < 1000) (h2 : acc.2.length < 1000) :
    Run ((S.seq (S.iff (T.cmp .Eq (E.attr C_ClauseCode "key" (E.item (E.var "codes") (E.var "place"))) (E.const (.tup [.str "var"]))) (S.seq (S.iff (T.cmp .Gt (E.len (E.var "run")) (E.const (.int 0))) (S.seq (S.expr (E.lmeth E.opAppend (E.var "groups") [E.var "run"])) (S.seq (S.asg "run" (E.list [])) (S.nil))) (S.nil)) (S.seq (S.expr (E.lmeth E.opAppend (E.var "groups") [E.list [E.var "place"]])) (S.nil))) (S.seq (S.expr (E.lmeth E.opAppend (E.var "run") [E.var "place"])) (S.nil))) (S.nil)) (upd m "place" (.int j)) H') fun z => z.1 = .next ∧ ∃ refs t, GL H c t z.2.1 ∧ GH H z.2.2 refs t (grpStep keys acc j) := by
  have k := List.getElem?_eq_getElem hj
  have hp : upd m "place" (.int j) "place" = some (.int j) := upd_self
  have L : GL H c t (upd m "place" (.int j)) := ⟨(upd_ne (by decide)).trans l.codes, (upd_ne (by decide)).trans l.groups, (upd_ne (by decide)).trans l.run⟩
  generalize upd m "place" (.int j) = m1 at *
  have lb : ∀ {r : List Nat} {n : Nat}, r.length ≤ n → n < 2000 → (r.map V.ref).length < big := fun h h2 => lt_big (by rw [List.length_map]; omega)
  have t1 : T.cmp .Eq (E.attr C_ClauseCode "key" (E.item (E.var "codes") (E.var "place"))) (E.const (.tup [.str "var"])) m1 H' = some (decide (keys[j] = .var), H') := t_cmp (e_key (hc.ext x.ext) k (e_var L.codes) (e_var hp)) rfl (eqV_key_var _)
  have one : ∀ {m1 : Loc} {H' : Hp} {refs : List Nat} {t : Nat} {gs : List (List Nat)}, GL H c t m1 → m1 "place" = some (.int j) → GH H H' refs t (gs, []) → gs.length < 1500 → Run (S.seq (S.seq (S.expr (E.lmeth E.opAppend (E.var "groups") [E.list [E.var "place"]])) (S.nil)) S.nil m1 H') fun z => z.1 = .next ∧ ∃ refs t, GL H c t z.2.1 ∧ GH H z.2.2 refs t (gs ++ [[j]], []) := fun {m1 H' refs t gs} L hp x hg =>
    ⟨_, s_assoc.trans (s_expr (e_app (e_var L.groups) x.gl (e_list (evs1 (e_var hp))) (Ext.get .push x.gl) (lb (Nat.le_of_eq x.grp.1) (Nat.lt_trans hg (by decide)))) rfl), rfl, refs ++ [H'.length], t, L, x.single⟩
  refine Run.iff t1 (fun e => ?_) fun e => ?_
  · have hg : grpStep keys acc j = if acc.2 = [] then (acc.1 ++ [[j]], []) else (acc.1 ++ [acc.2] ++ [[j]], []) := if_pos (by rw [k, of_decide_eq_true e])
    rw [hg]
    have t2 := t_run (y := "run") L.run x.rt
    by_cases hr : acc.2 = []
    · rw [if_pos hr]
      obtain ⟨gs, r⟩ := acc
      dsimp only at hr
      subst hr
      rw [decide_eq_false (fun h => h rfl)] at t2
      exact .of (s_assoc.trans (s_skip t2 rfl)) (one L hp x (Nat.lt_trans h1 (by decide)))
    · rw [if_neg hr]
      rw [decide_eq_true hr] at t2
      have ap := e_app (e_var L.groups) x.gl (e_var L.run) x.gl (lb (Nat.le_of_eq x.grp.1) (Nat.lt_trans h1 (by decide)))
      have fin := one (m1 := upd m1 "run" (.ref (H'.set H.length (.list (refs.map .ref ++ [.ref t]))).length)) ⟨(upd_ne (by decide)).trans L.codes, (upd_ne (by decide)).trans L.groups, upd_self⟩ ((upd_ne (by decide)).trans hp) x.flush (by rw [List.length_append]; exact Nat.lt_trans (Nat.succ_lt_succ h1) (by decide))
      refine .of (s_assoc.trans (s_iffT t2 (s_assoc.trans (s_expr ap (s_assoc.trans (s_asg e_list0 s_nil)))))) fin
  · have hg : grpStep keys acc j = (acc.1, acc.2 ++ [j]) := if_neg (by rw [k]; exact fun h => of_decide_eq_false e (Option.some.inj h))
    rw [hg]
    exact ⟨_, s_assoc.trans (s_expr (e_app (e_var L.run) x.rt (e_var hp) x.rt (lt_big (by rw [nats_len]; exact Nat.lt_trans h2 (by decide)))) rfl), rfl, refs, t, L, x.run⟩
structure Grps (H : Hp) (gs : List (List Nat)) (g : Nat) (H2 : Hp) : Prop where
  ext : Ext H H2
  new : H.length ≤ g
  refs : ∃ refs : List Nat, H2[g]? = some (.list (refs.map .ref)) ∧ GrpAt H2 refs gs ∧ ∀ u ∈ refs, H.length < u
theorem clause_groups_ok (hc : Codes H c keys) (few : keys.length < 100) : RunR (P.clause_groups [.ref c] H) (Grps H (groupsF keys)) := by
  have l1 : (H ++ [O.list []]).length = H.length + 1 := List.length_append
  have e1 : Ext H (H ++ [.list []]) := .push
  have e2 : Ext (H ++ [.list []]) (H ++ [.list []] ++ [.list []]) := .push
  have rl : (List.range keys.length).length < 100 := by rw [List.length_range]; exact few
  have few2 : ∀ d : List Nat, d.length < 100 → (d.foldl (grpStep keys) ([], [])).1.length < 1000 ∧ (d.foldl (grpStep keys) ([], [])).2.length < 1000 := fun d h => ⟨Nat.lt_of_le_of_lt (grp_len keys d _).1 (by rw [List.length_nil]; omega), Nat.lt_of_le_of_lt (grp_len keys d _).2 (by rw [List.length_nil]; omega)⟩
  refine RunR_fn rfl (.of (s_asg e_list0 (s_asg (X := .ref (H.length + 1)) (H1 := H ++ [.list []] ++ [.list []]) (by rw [← l1]; rfl) rfl)) ?_)
  refine Run.forN (fun d m H' => ∃ refs t, GL H c t m ∧ GH H H' refs t (d.foldl (grpStep keys) ([], []))) (Nat.lt_trans few (by decide)) (e_codes (hc.ext (e1.trans e2)) (e_var rfl)) ⟨[], H.length + 1, ⟨rfl, rfl, rfl⟩, by rw [← l1]; exact get_new, e2.get get_new, ⟨rfl, fun i ps h => nomatch h⟩, (fun h => nomatch h), Nat.lt_succ_self _, (fun _ h => nomatch h), e1.trans e2⟩ (fun d j t m H' h i => ?_) fun m H' i => ?_
  · obtain ⟨refs, t, l, x⟩ := i
    obtain ⟨a1, a2⟩ := range_mem h
    obtain ⟨b1, b2⟩ := few2 d (Nat.lt_trans a2 few)
    rw [List.foldl_append]
    exact groups_step hc a1 l x b1 b2
  · obtain ⟨refs, t, l, x⟩ := i
    have b1 := (few2 _ rl).1
    generalize hacc : (List.range keys.length).foldl (grpStep keys) ([], []) = acc at *
    have hg : groupsF keys = if acc.2 = [] then acc.1 else acc.1 ++ [acc.2] := by rw [← hacc]; rfl
    rw [hg]
    have t2 := t_run (y := "run") l.run x.rt
    by_cases hr : acc.2 = []
    · rw [if_pos hr]
      rw [decide_eq_false (fun h => h hr)] at t2
      exact .of (s_skip t2 rfl) (Run.ret (e_var l.groups) ⟨_, rfl, x.ext, Nat.le_refl _, refs, x.gl, x.grp, fun u h => (x.rg u h).1⟩)
    · rw [if_neg hr]
      rw [decide_eq_true hr] at t2
      exact .of (s_iffT t2 (s_assoc.trans (s_expr (e_app (e_var l.groups) x.gl (e_var l.run) x.gl (lt_big (by rw [List.length_map, x.grp.1]; exact Nat.lt_trans b1 (by decide)))) rfl))) (Run.ret (e_var l.groups) ⟨_, rfl, x.ext.set_new (Nat.le_refl _), Nat.le_refl _, refs ++ [t], x.end_.2, x.end_.1, fun u h => (x.rg' u h).1⟩)
end
theorem groups_facts (keys : List Key) : (groupsF keys).flatten = List.range keys.length ∧ ∀ g ∈ groupsF keys, g ≠ [] := by
  have : ∀ (qs : List Nat) (acc : List (List Nat) × List Nat), (∀ g ∈ acc.1, g ≠ []) → (qs.foldl (grpStep keys) acc).1.flatten ++ (qs.foldl (grpStep keys) acc).2 = acc.1.flatten ++ acc.2 ++ qs ∧ ∀ g ∈ (qs.foldl (grpStep keys) acc).1, g ≠ [] := by
    intro qs
    induction qs with
    | nil => exact fun acc h => ⟨(List.append_nil _).symm, h⟩
    | cons j qs ih =>
      intro acc h
      have snoc : ∀ {gs : List (List Nat)} {g : List Nat}, (∀ x ∈ gs, x ≠ []) → g ≠ [] → ∀ x ∈ gs ++ [g], x ≠ [] := fun h1 h2 x hx => (List.mem_append.mp hx).elim (h1 x) fun e => List.mem_singleton.mp e ▸ h2
      have h3 : (grpStep keys acc j).1.flatten ++ (grpStep keys acc j).2 = acc.1.flatten ++ acc.2 ++ [j] ∧ ∀ g ∈ (grpStep keys acc j).1, g ≠ [] := by
        unfold grpStep
        split
        · split
          · rename_i he
            exact ⟨by rw [he, List.flatten_append, List.append_nil, List.append_nil]; rfl, snoc h (List.cons_ne_nil _ _)⟩
          · rename_i he
            exact ⟨by rw [List.flatten_append, List.flatten_append, List.append_nil, List.flatten_singleton, List.flatten_singleton], snoc (snoc h he) (List.cons_ne_nil _ _)⟩
        · exact ⟨(List.append_assoc _ _ _).symm, h⟩
      have := ih _ h3.2
      rw [h3.1, List.append_assoc _ [j]] at this
      exact this
  have h := this (List.range keys.length) ([], []) (fun _ h => nomatch h)
  unfold groupsF grpEnd
  split
  · rename_i he
    rw [he, List.append_nil] at h
    exact h
  · rename_i he
    exact ⟨by rw [List.flatten_append, List.flatten_singleton]; exact h.1, fun g hg => (List.mem_append.mp hg).elim (h.2 g) fun e => List.mem_singleton.mp e ▸ he⟩
theorem flat_len : ∀ (gs : List (List Nat)), (∀ g ∈ gs, g ≠ []) → gs.length ≤ gs.flatten.length := by
  intro gs
  induction gs with
  | nil => exact fun _ => Nat.le_refl _
  | cons g gs ih =>
    intro h
    rw [List.flatten_cons, List.length_append, List.length_cons, Nat.add_comm]
    exact Nat.add_le_add (List.length_pos_iff.mpr (h g List.mem_cons_self)) (ih fun x hx => h x (List.mem_cons_of_mem _ hx))
theorem mem_flat_len (gs : List (List Nat)) (g : List Nat) (h : g ∈ gs) : g.length ≤ gs.flatten.length := by
  obtain ⟨a, b, rfl⟩ := List.append_of_mem h
  rw [List.flatten_append, List.flatten_cons, List.length_append, List.length_append]
  exact Nat.le_trans (Nat.le_add_right _ _) (Nat.le_add_left _ _)
noncomputable def labStep (acc : List Int × Int) (g : List Nat) : List Int × Int := match g with
  | [p] => (acc.1 ++ [(p : Int)], acc.2)
  | _ => (acc.1 ++ [acc.2], acc.2 + 1)
noncomputable def labsF (keys : List Key) : List Int × Int := (groupsF keys).foldl labStep ([], (keys.length : Int))
noncomputable def segStep (keys : List Key) (st : Bst) (p : List Nat × Int) : Bst := if 1 < p.1.length then switchF keys p.1 { st with rows := st.rows ++ [.lab p.2] } else st
noncomputable def groupBlock (w : Int) (keys : List Key) : List Row := if (keys.all fun k => decide (k = .var)) = true then chainBlock w keys else match groupsF keys with
  | [g] => finRows w keys (switchF keys g (b0 keys))
  | gs => finRows w keys ((gs.zip (labsF keys).1).foldl (segStep keys) ⟨chainRows w (labsF keys).1, [], (labsF keys).2⟩)
theorem segStep_len (keys : List Key) (st : Bst) (p : List Nat × Int) : (segStep keys st p).chains.length ≤ st.chains.length + 2 * p.1.length + 3 ∧ (segStep keys st p).rows.length ≤ st.rows.length + 6 := by
  unfold segStep
  split
  · have h := switchF_len keys p.1 { st with rows := st.rows ++ [.lab p.2] }
    exact ⟨h.1, Nat.le_trans h.2 (by rw [List.length_append]; exact Nat.le_refl _)⟩
  · exact ⟨by rw [Nat.add_assoc]; exact Nat.le_add_right _ _, Nat.le_add_right _ 6⟩
theorem segs_len (keys : List Key) : ∀ (ps : List (List Nat × Int)) (st : Bst), (∀ p ∈ ps, p.1.length ≤ 10) → (ps.foldl (segStep keys) st).chains.length ≤ st.chains.length + 23 * ps.length ∧ (ps.foldl (segStep keys) st).rows.length ≤ st.rows.length + 6 * ps.length := by
  intro ps
  induction ps with
  | nil => exact fun _ _ => ⟨Nat.le_refl _, Nat.le_refl _⟩
  | cons p ps ih =>
    intro st h
    have h1 := segStep_len keys st p
    have h2 := ih (segStep keys st p) fun q hq => h q (List.mem_cons_of_mem _ hq)
    have h3 := h p List.mem_cons_self
    rw [List.foldl_cons, List.length_cons]
    exact ⟨Nat.le_trans h2.1 (by omega), Nat.le_trans h2.2 (by omega)⟩
theorem segs_chains (keys : List Key) : ∀ (ps : List (List Nat × Int)) (st : Bst), (∀ p ∈ ps, p.1.length ≤ 10) → (∀ p ∈ st.chains, 2 ≤ p.2.length ∧ p.2.length < 100) → ∀ p ∈ (ps.foldl (segStep keys) st).chains, 2 ≤ p.2.length ∧ p.2.length < 100 := by
  intro ps
  induction ps with
  | nil => exact fun _ _ h => h
  | cons q ps ih =>
    intro st hq h
    refine ih _ (fun p hp => hq p (List.mem_cons_of_mem _ hp)) ?_
    unfold segStep
    split
    · exact sw_chains h (Nat.lt_of_le_of_lt (hq q List.mem_cons_self) (by decide))
    · exact h
theorem labs_fold (gs : List (List Nat)) : ∀ acc : List Int × Int, (gs.foldl labStep acc).1.length = acc.1.length + gs.length := by
  induction gs with
  | nil => exact fun _ => rfl
  | cons g gs ih =>
    intro acc
    have : (labStep acc g).1.length = acc.1.length + 1 := by unfold labStep; split <;> exact List.length_append
    rw [List.foldl_cons, ih, this, List.length_cons, Nat.add_assoc, Nat.add_comm 1]
theorem labs_len (keys : List Key) : (labsF keys).1.length = (groupsF keys).length := (labs_fold _ _).trans (Nat.zero_add _)
theorem GrpAt.pairs {H : Hp} {refs : List Nat} {gs : List (List Nat)} (x : GrpAt H refs gs) : ∃ G : List (Nat × List Nat), G.map (·.1) = refs ∧ G.map (·.2) = gs ∧ ∀ p ∈ G, H[p.1]? = some (.list (nats p.2)) := by
  refine ⟨refs.zip gs, List.map_fst_zip (Nat.le_of_eq x.1), List.map_snd_zip (Nat.le_of_eq x.1.symm), fun p hp => ?_⟩
  obtain ⟨i, hi⟩ := List.mem_iff_getElem?.mp hp
  obtain ⟨h1, h2⟩ := List.getElem?_zip_eq_some.mp hi
  obtain ⟨u, a, b⟩ := x.2 i p.2 h2
  rw [h1] at a
  exact Option.some.inj a ▸ b
/-- the groups, before the labels -/
structure GA (X : BX) (m0 : Loc) (H : Hp) (g : Nat) (G : List (Nat × List Nat)) : Prop where
  b : m0 "builder" = some (.ref X.b)
  mg : m0 "groups" = some (.ref g)
  gl : H[g]? = some (.list (G.map fun p => .ref p.1))
  gr : ∀ p ∈ G, H[p.1]? = some (.list (nats p.2)) ∧ p.1 ∉ X.own
  go : g ∉ X.own
  few : ∀ p ∈ G, p.2.length ≤ 10 ∧ p.2 ≠ [] ∧ ∀ j ∈ p.2, j < X.keys.length
  n : G.length ≤ 10
  new : ∀ i ∈ X.own, i < H.length
  ge : X.H0.length ≤ H.length
section
variable {X : BX} {m0 m : Loc} {H H1 : Hp} {g : Nat} {G : List (Nat × List Nat)} {st : Bst}
theorem GA.lo (x : GA X m0 H g G) : H.length ∉ X.own := fun h => Nat.lt_irrefl _ (x.new _ h)
theorem GA.not (x : GA X m0 H g G) {i : Nat} (h : i < H.length) (ho : i ∉ X.own) : i ∉ H.length :: X.own := fun hi => (List.mem_cons.mp hi).elim (Nat.ne_of_lt h) ho
structure GI (X : BX) (m0 : Loc) (H : Hp) (d : List (Nat × List Nat)) (m : Loc) (H1 : Hp) : Prop where
  loc : ∀ z, z ∉ ["group", "labels"] → m z = m0 z
  ml : m "labels" = some (.ref H.length)
  lab : H1[H.length]? = some (.list ((d.foldl (fun acc p => labStep acc p.2) ([], (X.keys.length : Int))).1.map .int))
  bld : Bld X H1 ⟨[], [], (d.foldl (fun acc p => labStep acc p.2) ([], (X.keys.length : Int))).2⟩
  ext : ExtB (H.length :: X.own) H H1
theorem GI.step (A : GA X m0 H g G) {d : List (Nat × List Nat)} {p : Nat × List Nat} (hp : p ∈ G) (hd : d.length < 1000) (x : GI X m0 H d m H1) :
    Run ((S.seq (S.iff (T.cmp .Eq (E.len (E.var "group")) (E.const (.int 1))) (S.seq (S.expr (E.lmeth E.opAppend (E.var "labels") [E.item (E.var "group") (E.const (.int 0))])) (S.nil)) (S.seq (S.expr (E.lmeth E.opAppend (E.var "labels") [E.meth C_BlockBuilder "fresh_label" P.BlockBuilder_fresh_label (E.var "builder") []])) (S.nil))) (S.nil)) (upd m "group" (.ref p.1)) H1) fun z => z.1 = .next ∧ GI X m0 H (d ++ [p]) z.2.1 z.2.2 := by
  obtain ⟨h0, ho⟩ := A.gr p hp
  have hu := x.ext.get (A.not (lt_of h0) ho) h0
  have hl := loc_upd (v := .ref p.1) (.head _) x.loc
  have hm : upd m "group" (.ref p.1) "labels" = some (.ref H.length) := (upd_ne (by decide)).trans x.ml
  have hg : upd m "group" (.ref p.1) "group" = some (.ref p.1) := upd_self
  have hb := (hl "builder" (by decide)).trans A.b
  have e : (d ++ [p]).foldl (fun acc p => labStep acc p.2) ([], (X.keys.length : Int)) = labStep (d.foldl (fun acc p => labStep acc p.2) ([], (X.keys.length : Int))) p.2 := List.foldl_append
  have hlen : (d.foldl (fun acc p => labStep acc p.2) ([], (X.keys.length : Int))).1.length < 1000 := by
    have h := labs_fold (d.map (·.2)) ([], (X.keys.length : Int))
    rw [List.foldl_map, List.length_map] at h
    rw [h, List.length_nil, Nat.zero_add]
    exact hd
  have fin : ∀ (m2 : Loc) (H2 : Hp), (∀ z, z ∉ ["group", "labels"] → m2 z = m0 z) → m2 "labels" = some (.ref H.length) → H2[H.length]? = some (.list ((labStep (d.foldl (fun acc p => labStep acc p.2) ([], (X.keys.length : Int))) p.2).1.map .int)) → Bld X H2 ⟨[], [], (labStep (d.foldl (fun acc p => labStep acc p.2) ([], (X.keys.length : Int))) p.2).2⟩ → ExtB (H.length :: X.own) H H2 → GI X m0 H (d ++ [p]) m2 H2 := fun _ _ a b c d f => ⟨a, b, by rw [e]; exact c, by rw [e]; exact d, f⟩
  have lab := x.lab
  have bld := x.bld
  have ext := x.ext
  clear x e
  generalize d.foldl (fun acc p => labStep acc p.2) ([], (X.keys.length : Int)) = acc at *
  generalize upd m "group" (.ref p.1) = m1 at *
  have hb2 : (acc.1.map V.int).length < big := lt_big (by rw [List.length_map]; exact Nat.lt_trans hlen (by decide))
  have tl := t_eqi (j := 1) (e_len (e_var hg) hu)
  rw [nats_len] at tl
  obtain ⟨u, ps⟩ := p
  match ps, (A.few _ hp).2.1, hu, tl, fin with
  | [q], _, hu, tl, fin =>
    refine ⟨_, s_iffT tl (s_assoc.trans (s_expr (e_app (e_var hm) lab (e_item0 (e_var hg) (list_get (n := 0) hu rfl)) lab hb2) rfl)), rfl, fin _ _ hl hm ?_ (bld.set A.lo A.ge) (ext.trans (.set (.head _)))⟩
    rw [get_set lab]
    exact congrArg (fun l => some (O.list l)) (List.map_append (f := V.int) (l₂ := [(q : Int)])).symm
  | q1 :: q2 :: qs, _, hu, tl, fin =>
    rw [decide_eq_false (by rw [List.length_cons, List.length_cons]; omega)] at tl
    refine (fresh_label_ok bld).use fun H2 e2 y => ?_
    have lab2 := y.e.get A.lo lab
    refine ⟨_, s_iffF tl (s_assoc.trans (s_expr (e_app (e_var hm) lab (e_meth0 (e_var hb) bld.obj rfl e2) lab2 hb2) rfl)), rfl, fin _ _ hl hm ?_ (y.b.set A.lo A.ge) (ext.trans (ExtB.trans (y.e.weak fun s hs => .inl (.tail _ hs)) (.set (.head _))))⟩
    rw [get_set lab2]
    exact congrArg (fun l => some (O.list l)) (List.map_append (f := V.int) (l₂ := [acc.2])).symm
/-- the groups' own switches -/
structure GJ (X : BX) (m0 : Loc) (H : Hp) (L : Nat) (st : Bst) (d : List ((Nat × List Nat) × Int)) (m : Loc) (H1 : Hp) : Prop where
  loc : ∀ z, z ∉ ["number"] → m z = m0 z
  to : To X H (d.foldl (fun st a => segStep X.keys st (a.1.2, a.2)) st) H1
theorem GJ.step {Z d t : List ((Nat × List Nat) × Int)} {a : (Nat × List Nat) × Int} {L g : Nat} (mb : m0 "builder" = some (.ref X.b)) (mg : m0 "groups" = some (.ref g)) (ml : m0 "labels" = some (.ref L)) (hg : H[g]? = some (.list (Z.map fun a => .ref a.1.1))) (hL : H[L]? = some (.list (Z.map fun a => .int a.2))) (go : g ∉ X.own) (lo : L ∉ X.own) (ha : H[a.1.1]? = some (.list (nats a.1.2)) ∧ a.1.1 ∉ X.own) (few : a.1.2.length ≤ 10 ∧ ∀ j ∈ a.1.2, j < X.keys.length)
    (h : Z = d ++ a :: t) (x : GJ X m0 H L st d m H1) (h1 : (d.foldl (fun st a => segStep X.keys st (a.1.2, a.2)) st).chains.length < 400) (h2 : (d.foldl (fun st a => segStep X.keys st (a.1.2, a.2)) st).rows.length < 1000) :
    Run ((S.seq (S.iff (T.cmp .Gt (E.len (E.item (E.var "groups") (E.var "number"))) (E.const (.int 1))) (S.seq (S.expr (E.lmeth E.opAppend (E.attr C_BlockBuilder "rows" (E.var "builder")) [E.tup [E.const (.str "label"), E.item (E.var "labels") (E.var "number")]])) (S.seq (S.expr (E.meth C_BlockBuilder "switch" P.BlockBuilder_switch (E.var "builder") [E.item (E.var "groups") (E.var "number")])) (S.nil))) (S.nil)) (S.nil)) (upd m "number" (.int d.length)) H1) fun z => z.1 = .next ∧ GJ X m0 H L st (d ++ [a]) z.2.1 z.2.2 := by
  have hl := loc_upd (v := .int d.length) (.head _) x.loc
  have hn : upd m "number" (.int d.length) "number" = some (.int d.length) := upd_self
  have e : (d ++ [a]).foldl (fun st a => segStep X.keys st (a.1.2, a.2)) st = segStep X.keys (d.foldl (fun st a => segStep X.keys st (a.1.2, a.2)) st) (a.1.2, a.2) := List.foldl_append
  have to := x.to
  clear x
  generalize upd m "number" (.int d.length) = m1 at *
  have item : ∀ {H2 : Hp}, ExtB X.own H H2 → E.item (E.var "groups") (E.var "number") m1 H2 = some (.ref a.1.1, H2) := fun f => e_item (e_var ((hl _ (by decide)).trans mg)) (e_var hn) (list_get (f.get go hg) (map_at h _))
  have tg := t_gt (b := E.const (.int 1)) (e_len (item to.e) (to.e.get ha.2 ha.1)) rfl
  rw [nats_len] at tg
  refine Run.iff tg (fun c => ?_) fun c => ?_
  · have c1 : 1 < a.1.2.length := Int.ofNat_lt.mp (of_decide_eq_true c)
    have mb1 := (hl _ (by decide)).trans mb
    refine .of s_assoc (to.b.pushS (row := .lab a.2) (.refl to.b) (e_var mb1) (e_tup (evs2 rfl (e_item (e_var ((hl _ (by decide)).trans ml)) (e_var hn) (list_get (to.e.get lo hL) (map_at h _))))) (Nat.lt_trans h2 (by decide)) fun H2 y => .of s_assoc ?_)
    have f2 := to.e.trans y.e
    refine (switch_ok y.b (f2.get ha.2 ha.1) ha.2 (Nat.lt_of_le_of_lt few.1 (by decide)) few.2 h1 (by rw [List.length_append]; exact Nat.lt_trans (Nat.succ_lt_succ h2) (by decide))).use fun H3 e3 z => ⟨_, s_expr (e_meth1 (e_var mb1) y.b.obj rfl (item f2) e3) rfl, rfl, hl, ?_⟩
    rw [e]
    unfold segStep
    rw [if_pos c1]
    exact to.trans (y.trans z)
  · have c1 : ¬ 1 < a.1.2.length := fun h => of_decide_eq_false c (Int.ofNat_lt.mpr h)
    refine ⟨_, rfl, rfl, hl, ?_⟩
    rw [e]
    unfold segStep
    rw [if_neg c1]
    exact to
theorem group_block_ok {H : Hp} {c s f : Nat} {w : Int} {keys : List Key} (hc : Codes H c keys) (hs : SymAt H s f w) (hw : w ≠ 0) (h2 : 2 ≤ keys.length) (few : keys.length ≤ 10) :
    RunR (P.group_block [.ref s, .int f, .ref c] H) (NewB H (groupBlock w keys)) := by
  have few2 : keys.length < 100 := Nat.lt_of_le_of_lt few (by decide)
  refine RunR_fn rfl (not_small hc rfl h2 (all_var hc hs hw h2 few2 (fun h q H2 y => ⟨q, rfl, by unfold groupBlock; rw [if_pos h]; exact y⟩) fun h => ?_))
  have hi : groupBlock w keys = match groupsF keys with
    | [g] => finRows w keys (switchF keys g (b0 keys))
    | gs => finRows w keys ((gs.zip (labsF keys).1).foldl (segStep keys) ⟨chainRows w (labsF keys).1, [], (labsF keys).2⟩) := if_neg (by rw [h]; decide)
  refine (new_builder (m := args ["symbols", "functor", "codes"] [.ref s, .int f, .ref c]) (e_arity (x := "symbols") (y := "functor") hs rfl rfl) (e_var (x := "codes") rfl) hc few2).use fun H1 e1 x => .of (s_asg e1 rfl) ?_
  refine (clause_groups_ok (keys := keys) x.codes few2).use fun g H2 e2 y => .of (s_asg (e_call1 (e_var rfl) e2) rfl) ?_
  clear e1 e2
  have hb : upd (upd (args ["symbols", "functor", "codes"] [.ref s, .int f, .ref c]) "builder" (.ref (newX H w c keys).b)) "groups" (.ref g) "builder" = some (.ref (newX H w c keys).b) := rfl
  have hg : upd (upd (args ["symbols", "functor", "codes"] [.ref s, .int f, .ref c]) "builder" (.ref (newX H w c keys).b)) "groups" (.ref g) "groups" = some (.ref g) := rfl
  generalize upd (upd (args ["symbols", "functor", "codes"] [.ref s, .int f, .ref c]) "builder" (.ref (newX H w c keys).b)) "groups" (.ref g) = m0 at *
  obtain ⟨refs, gl, gr, rg⟩ := y.refs
  obtain ⟨G, rfl, hG, hr⟩ := gr.pairs
  obtain ⟨gf, gne⟩ := groups_facts keys
  rw [List.map_map] at gl
  have lg : (groupsF keys).length ≤ keys.length := Nat.le_trans (flat_len _ gne) (by rw [gf, List.length_range]; exact Nat.le_refl _)
  have own : ∀ {i : Nat}, H1.length ≤ i → i ∉ (newX H w c keys).own := fun h hi => Nat.lt_irrefl _ (Nat.lt_of_lt_of_le (x.lt _ hi) h)
  have x2 := x.to y.ext
  have A : GA (newX H w c keys) m0 H2 g G := by
    refine ⟨hb, hg, gl, fun p hp => ⟨hr p hp, own (Nat.le_of_lt (rg _ (List.mem_map_of_mem hp)))⟩, own y.new, fun p hp => ?_, ?_, x2.b.lt, x2.b.ext.2⟩
    · have hp2 : p.2 ∈ groupsF keys := hG ▸ List.mem_map_of_mem (f := Prod.snd) hp
      refine ⟨Nat.le_trans (mem_flat_len _ _ hp2) (by rw [gf, List.length_range]; exact few), gne _ hp2, fun j hj => List.mem_range.mp (show j ∈ List.range keys.length from ?_)⟩
      rw [← gf]
      exact List.mem_flatten.mpr ⟨_, hp2, hj⟩
    · rw [← List.length_map (f := Prod.snd), hG]; exact Nat.le_trans lg few
  have hn : G.length = (groupsF keys).length := by rw [← hG, List.length_map]
  have x3 := x2.b
  clear y gl gr rg hr hb hg x2 own
  have tl := t_eqi (j := 1) (e_len (e_var A.mg) A.gl)
  rw [List.length_map] at tl
  refine Run.iff tl (fun h1 => ?_) fun h1 => ?_
  · match G, hG, A, h1 with
    | [], hG, A, h1 => exact absurd (of_decide_eq_true h1) (by decide)
    | _ :: _ :: _, hG, A, h1 => exact absurd (of_decide_eq_true h1) (by rw [List.length_cons, List.length_cons]; omega)
    | [p], hG, A, h1 =>
      rw [hi, ← hG]
      obtain ⟨b1, b2, b3⟩ := A.few p (.head _)
      have b4 : p.2.length < 100 := Nat.lt_of_le_of_lt b1 (by decide)
      refine (switch_ok x3 (A.gr p (.head _)).1 (A.gr p (.head _)).2 b4 b3 (show 0 < 400 by decide) (show 0 < 50000 by decide)).use fun H3 e3 y => .of (s_assoc.trans (s_expr (e_meth1 (e_var A.b) x3.obj rfl (e_item0 (e_var A.mg) (list_get (n := 0) A.gl rfl)) e3) s_assoc)) ?_
      exact (finish_ok y.b (sw_chains (fun p hp => nomatch hp) b4) (sw_fin rfl (Nat.zero_le _) b4 few2)).use fun H4 e4 u => Run.ret (e_meth0 (e_var A.b) y.b.obj rfl e4) ⟨_, rfl, u.ext, u.rows⟩
  · have n1 : G.length ≠ 1 := fun h => of_decide_eq_false h1 (congrArg Nat.cast h)
    have gb : groupBlock w keys = finRows w keys (((groupsF keys).zip (labsF keys).1).foldl (segStep keys) ⟨chainRows w (labsF keys).1, [], (labsF keys).2⟩) := by
      rw [hi]
      split
      · rename_i g hg; rw [hn, hg] at n1; exact absurd rfl n1
      · rfl
    rw [gb]
    clear hi gb tl h1 h
    have e0 : Ext H2 (H2 ++ [.list []]) := .push
    refine .of (s_nil.trans (s_asg e_list0 rfl)) (Run.forL (enc := fun p : Nat × List Nat => V.ref p.1) (GI (newX H w c keys) m0 H2) (e_var A.mg) (e0.get A.gl) (fun d m H' i => i.ext.get (A.not (lt_of A.gl) A.go) A.gl) ⟨fun z hz => upd_ne fun (e : z = "labels") => hz (e ▸ .tail _ (.head _)), upd_self, get_new, x3.same e0, e0.any⟩ (fun d a t m H' h i => i.step A (mid_lt h).2 (Nat.lt_of_lt_of_le (mid_lt h).1 (Nat.le_trans A.n (by decide)))) fun m H3 i => ?_)
    have fl : G.foldl (fun acc p => labStep acc p.2) ([], (keys.length : Int)) = labsF keys := by rw [← List.foldl_map, hG]; rfl
    have ml := i.ml
    have lab := i.lab
    have x4 := i.bld
    have ext := i.ext
    change H3[H2.length]? = some (.list ((G.foldl (fun acc p => labStep acc p.2) ([], (keys.length : Int))).1.map .int)) at lab
    change Bld _ H3 ⟨[], [], (G.foldl (fun acc p => labStep acc p.2) ([], (keys.length : Int))).2⟩ at x4
    rw [fl] at lab x4
    have mb := (i.loc _ (by decide)).trans A.b
    have mg := (i.loc _ (by decide)).trans A.mg
    clear i fl
    have ll : (labsF keys).1.length = G.length := (labs_len keys).trans hn.symm
    have n2 : 2 ≤ G.length := by
      have : G.length ≠ 0 := fun h => by rw [hn] at h; rw [List.length_eq_zero_iff.mp h] at gf; have := congrArg List.length gf; rw [List.length_range] at this; rw [← this] at h2; exact absurd h2 (by decide)
      omega
    obtain ⟨l0, r, l1, hr⟩ := two_ends (labsF keys).1 (by rw [ll]; exact n2)
    refine (chain_rows_ok x4 (Lv := .ref H2.length) (.inr ⟨_, rfl, by rw [← hr]; exact lab⟩) (by rw [← hr, ll]; exact Nat.lt_of_le_of_lt A.n (by decide))).use fun q H4 e4 y => ?_
    rw [← hr] at y
    have hcr : (chainRows w (labsF keys).1).length ≤ 10 := by rw [few_rows, ll]; exact A.n
    refine Bld.appendL (x4.to y.ext) (by decide) mb (e_meth1 (e_var mb) x4.obj rfl (e_var ml) e4) y.list (fun h => Nat.lt_irrefl _ (Nat.lt_of_lt_of_le (x4.lt q h) y.new)) (Nat.lt_of_le_of_lt hcr (by decide)) fun m5 H5 h5 z => ?_
    have zb : Bld (newX H w c keys) H5 ⟨chainRows w (labsF keys).1, [], (labsF keys).2⟩ := z.b
    have F5 : ExtB (H2.length :: (newX H w c keys).own) H2 H5 := ext.trans (z.e.weak fun s hs => .inl (.tail _ hs))
    have mb5 := (h5 _ (by decide)).trans mb
    have mg5 := (h5 _ (by decide)).trans mg
    have ml5 := (h5 _ (by decide)).trans ml
    have lab5 := z.e.get A.lo lab
    have gl5 := F5.get (A.not (lt_of A.gl) A.go) A.gl
    clear e4 y z h5 mb mg ml lab ext x4
    obtain ⟨Z, hZ⟩ : ∃ Z, Z = G.zip (labsF keys).1 := ⟨_, rfl⟩
    have z1 : Z.map (·.1) = G := hZ ▸ List.map_fst_zip (Nat.le_of_eq ll.symm)
    have z2 : Z.map (·.2) = (labsF keys).1 := hZ ▸ List.map_snd_zip (Nat.le_of_eq ll)
    have z3 : Z.map (fun a => (a.1.2, a.2)) = (groupsF keys).zip (labsF keys).1 := by rw [hZ, ← hG, List.zip_map_left]; rfl
    have zl : Z.length = G.length := by rw [← z1, List.length_map]
    rw [← z1, List.map_map] at gl5
    rw [← z2, List.map_map] at lab5
    have bd : ∀ d : List ((Nat × List Nat) × Int), (∀ a ∈ d, a ∈ Z) → d.length ≤ 10 → (d.foldl (fun st a => segStep keys st (a.1.2, a.2)) ⟨chainRows w (labsF keys).1, [], (labsF keys).2⟩).chains.length < 400 ∧ (d.foldl (fun st a => segStep keys st (a.1.2, a.2)) ⟨chainRows w (labsF keys).1, [], (labsF keys).2⟩).rows.length < 1000 := fun d hd hl => by
      have h := segs_len keys (d.map fun a => (a.1.2, a.2)) ⟨chainRows w (labsF keys).1, [], (labsF keys).2⟩ fun p hp => by
        obtain ⟨a, ha, rfl⟩ := List.mem_map.mp hp
        exact (A.few a.1 (z1 ▸ List.mem_map_of_mem (f := Prod.fst) (hd a ha))).1
      rw [List.foldl_map, List.length_map] at h
      exact ⟨Nat.lt_of_le_of_lt h.1 (by rw [List.length_nil]; omega), Nat.lt_of_le_of_lt h.2 (show (chainRows w (labsF keys).1).length + 6 * d.length < 1000 by omega)⟩
    refine Run.forI (l := Z) (GJ (newX H w c keys) m5 H5 H2.length ⟨chainRows w (labsF keys).1, [], (labsF keys).2⟩) (by rw [zl]; exact Nat.lt_of_le_of_lt A.n (by decide)) ((e_len (e_var mg5) gl5).trans (by rw [List.length_map])) ⟨fun _ _ => rfl, .refl zb⟩ (fun d a t m H' h i => ?_) fun m H6 i => ?_
    · have ha : a.1 ∈ G := z1 ▸ List.mem_map_of_mem (f := Prod.fst) (mid_lt h).2
      have dl : d.length ≤ 10 := Nat.le_of_lt (Nat.lt_of_lt_of_le (mid_lt h).1 (by rw [zl]; exact A.n))
      obtain ⟨b1, b2⟩ := bd d (fun b hb => h ▸ List.mem_append_left _ hb) dl
      obtain ⟨c1, c2⟩ := A.gr _ ha
      exact i.step mb5 mg5 ml5 gl5 lab5 A.go A.lo ⟨F5.get (A.not (lt_of c1) c2) c1, c2⟩ ⟨(A.few _ ha).1, (A.few _ ha).2.2⟩ h b1 b2
    · have fz : Z.foldl (fun st a => segStep keys st (a.1.2, a.2)) ⟨chainRows w (labsF keys).1, [], (labsF keys).2⟩ = ((groupsF keys).zip (labsF keys).1).foldl (segStep keys) ⟨chainRows w (labsF keys).1, [], (labsF keys).2⟩ := by rw [← z3, List.foldl_map]
      have u := i.to.b
      obtain ⟨b1, b2⟩ := bd Z (fun _ h => h) (by rw [zl]; exact A.n)
      have mb6 := (i.loc _ (by decide)).trans mb5
      change Bld _ H6 (Z.foldl (fun st a => segStep keys st (a.1.2, a.2)) ⟨chainRows w (labsF keys).1, [], (labsF keys).2⟩) at u
      rw [fz] at u b1 b2
      have hch := segs_chains keys ((groupsF keys).zip (labsF keys).1) ⟨chainRows w (labsF keys).1, [], (labsF keys).2⟩ (fun p hp => by
        rw [← z3] at hp
        obtain ⟨a, ha, rfl⟩ := List.mem_map.mp hp
        exact (A.few a.1 (z1 ▸ List.mem_map_of_mem (f := Prod.fst) ha)).1) fun p hp => nomatch hp
      exact (finish_ok u hch (Nat.lt_of_le_of_lt (fin_len fun p hp => (hch p hp).2) (by show _ + _ + 3 * keys.length < _; omega))).use fun H7 e7 v => Run.ret (e_meth0 (e_var mb6) u.obj rfl e7) ⟨_, rfl, v.ext, v.rows⟩
end
noncomputable def Uniq (B : List Row) : Prop := ∀ (p q : Nat) (l : Int), B[p]? = some (Row.lab l) → B[q]? = some (Row.lab l) → p = q
/-- the table of labels of the first rows -/
noncomputable def WOk (D : Dct) (L : List Row) : Prop := (D = .emp ∧ ∀ (p : Nat) l, L[p]? ≠ some (.lab l)) ∨ ∃ f n, D = .I f n ∧ n ≤ L.length ∧ ∀ l, (∀ p : Nat, L[p]? = some (.lab l) → f l = some (.int p)) ∧ ((∀ p : Nat, L[p]? ≠ some (.lab l)) → f l = none)
theorem WOk.hit {D : Dct} {L : List Row} (x : WOk D L) {p : Nat} {l : Int} (h : L[p]? = some (.lab l)) : D.get (.int l) = some (some (.int p)) := by
  rcases x with ⟨rfl, x⟩ | ⟨f, n, rfl, _, x⟩
  · exact absurd h (x p l)
  · exact congrArg some ((x l).1 p h)
theorem WOk.miss {D : Dct} {L : List Row} (x : WOk D L) {l : Int} (h : ∀ p : Nat, L[p]? ≠ some (.lab l)) : D.get (.int l) = some none := by
  rcases x with ⟨rfl, x⟩ | ⟨f, n, rfl, _, x⟩
  · rfl
  · exact congrArg some ((x l).2 h)
theorem snoc_of {α : Type} {l : List α} {a b : α} {i : Nat} (h : l[i]? = some b) : (l ++ [a])[i]? = some b := (List.getElem?_append_left (List.getElem?_eq_some_iff.mp h).1).trans h
theorem WOk.skip {D : Dct} {L : List Row} (x : WOk D L) {r : Row} (h : ∀ l, r ≠ .lab l) : WOk D (L ++ [r]) := by
  have key : ∀ (p : Nat) l, (L ++ [r])[p]? = some (.lab l) → L[p]? = some (.lab l) := fun p l q => (snoc_get q).elim (fun e => absurd e.2.symm (h l)) id
  rcases x with ⟨rfl, x⟩ | ⟨f, n, rfl, hn, x⟩
  · exact .inl ⟨rfl, fun p l q => x p l (key p l q)⟩
  · exact .inr ⟨f, n, rfl, by rw [List.length_append]; exact Nat.le_succ_of_le hn, fun l => ⟨fun p q => (x l).1 p (key p l q), fun q => (x l).2 fun p z => q p (snoc_of z)⟩⟩
theorem WOk.put {D : Dct} {L : List Row} (x : WOk D L) {l : Int} (h : ∀ p : Nat, L[p]? ≠ some (.lab l)) (hz : L.length < 100000) : ∃ D', D.put (.int l) (.int L.length) = some D' ∧ WOk D' (L ++ [.lab l]) := by
  have fin : ∀ (f : Int → Option V), (∀ l', (∀ p : Nat, L[p]? = some (.lab l') → f l' = some (.int p)) ∧ ((∀ p : Nat, L[p]? ≠ some (.lab l')) → f l' = none)) → ∀ l', (∀ p : Nat, (L ++ [Row.lab l])[p]? = some (.lab l') → (if l' = l then some (V.int L.length) else f l') = some (.int p)) ∧ ((∀ p : Nat, (L ++ [Row.lab l])[p]? ≠ some (.lab l')) → (if l' = l then some (V.int L.length) else f l') = none) := by
    intro f hf l'
    refine ⟨fun p q => ?_, fun q => ?_⟩
    · rcases snoc_get q with ⟨e, e2⟩ | q
      · rw [if_pos (Row.lab.inj e2), e]
      · rw [if_neg fun (e : l' = l) => h p (e ▸ q)]; exact (hf l').1 p q
    · rw [if_neg fun (e : l' = l) => q L.length (by rw [e, List.getElem?_concat_length])]
      exact (hf l').2 fun p z => q p (snoc_of z)
  have e : (L ++ [Row.lab l]).length = L.length + 1 := List.length_append
  rcases x with ⟨rfl, x⟩ | ⟨f, n, rfl, hn, x⟩
  · exact ⟨.I (fun j => if j = l then some (.int L.length) else none) 1, rfl, .inr ⟨_, _, rfl, by rw [e]; exact Nat.le_add_left 1 _, fin (fun _ => none) fun l' => ⟨fun p q => absurd q (x p l'), fun _ => rfl⟩⟩⟩
  · exact ⟨.I (fun j => if j = l then some (.int L.length) else f j) (n + 1), if_pos (e := Option.none) (lt_big (Nat.lt_of_le_of_lt hn hz)), .inr ⟨_, _, rfl, by rw [e]; exact Nat.succ_le_succ hn, fin f x⟩⟩
section
variable {H H' : Hp} {B : List Row}
theorem block_get {bq p : Nat} {r : Row} (hb : H[bq]? = some (.list (B.map Row.enc))) (hr : B[p]? = some r) : getI H (.ref bq) (.int p) = some r.enc := list_get hb (by rw [List.getElem?_map, hr]; rfl)
theorem isLab (r : Row) : (∃ l, r = .lab l) ∨ ((∀ l, r ≠ .lab l) ∧ r.word ≠ "label") := by
  cases r with
  | lab l => exact .inl ⟨l, rfl⟩
  | sw k ps d => exact .inr ⟨(fun l h => nomatch h), by unfold Row.word; dsimp only; split <;> decide⟩
  | try_ l a => exact .inr ⟨(fun l h => nomatch h), show "try" ≠ "label" by decide⟩
  | retry l => exact .inr ⟨(fun l h => nomatch h), show "retry" ≠ "label" by decide⟩
  | trust l => exact .inr ⟨(fun l h => nomatch h), show "trust" ≠ "label" by decide⟩
  | swt v c li s => exact .inr ⟨(fun l h => nomatch h), show "switch_on_term" ≠ "label" by decide⟩
  | getc p => exact .inr ⟨(fun l h => nomatch h), show "get_constant" ≠ "label" by decide⟩
  | proceed => exact .inr ⟨(fun l h => nomatch h), show "proceed" ≠ "label" by decide⟩
/-- the table of labels, half done -/
structure PI (m0 : Loc) (w : Nat) (H0 : Hp) (d : List Row) (m : Loc) (H : Hp) : Prop where
  loc : ∀ z, z ∉ ["place"] → m z = m0 z
  tab : ∃ D, H[w]? = some (.dict D) ∧ WOk D d
  ext : ExtB [w] H0 H
theorem PI.step {m0 m : Loc} {w bq : Nat} {H0 : Hp} {d t : List Row} {a : Row} {A : Sx} (mb : m0 "block" = some (.ref bq)) (hb : H0[bq]? = some (.list (B.map Row.enc))) (hn : bq ≠ w) (h : B = d ++ a :: t) (hu : Uniq B) (hz : B.length < 50000) (x : PI m0 w H0 d m H)
    (hA : ∀ l D D', H[w]? = some (.dict D) → D.get (.int l) = some none → D.put (.int l) (.int d.length) = some D' → (∀ z, z ∉ ["place"] → upd m "place" (.int d.length) z = m0 z) → (∀ H2 : Hp, H2[bq]? = H[bq]? → E.item (E.item (E.var "block") (E.var "place")) (E.const (.int 1)) (upd m "place" (.int d.length)) H2 = some (.int l, H2)) → A (upd m "place" (.int d.length)) H = some (.next, upd m "place" (.int d.length), H.set w (.dict D'))) :
    Run (S.seq (S.iff (T.cmp .Eq (E.item (E.item (E.var "block") (E.var "place")) (E.const (.int 0))) (E.const (.str "label"))) A S.nil) S.nil (upd m "place" (.int d.length)) H) fun z => z.1 = .next ∧ PI m0 w H0 (d ++ [a]) z.2.1 z.2.2 := by
  have hl := loc_upd (v := .int d.length) (.head _) x.loc
  have hbH := x.ext.get (fun h => hn (List.mem_singleton.mp h)) hb
  have hr : B[d.length]? = some a := by have := map_at h id; rw [List.map_id] at this; exact this
  have gi : ∀ H2 : Hp, H2[bq]? = H[bq]? → E.item (E.var "block") (E.var "place") (upd m "place" (.int d.length)) H2 = some (a.enc, H2) := fun H2 e => e_itemvv ((hl _ (by decide)).trans mb) upd_self (block_get (e.trans hbH) hr)
  obtain ⟨D, hD, kD⟩ := x.tab
  refine Run.iff (t_eqs (e_item0 (gi H rfl) (Row.get0 H a))) (fun c => ?_) fun c => ?_
  · rcases isLab a with ⟨l, rfl⟩ | ⟨_, hw⟩
    · have hno : ∀ p : Nat, d[p]? ≠ some (.lab l) := fun p q => by
        have lt := (List.getElem?_eq_some_iff.mp q).1
        exact Nat.ne_of_lt lt (hu p d.length l (by rw [h, List.getElem?_append_left lt]; exact q) hr)
      obtain ⟨D', hD', kD'⟩ := kD.put hno (Nat.lt_trans (mid_lt h).1 (Nat.lt_trans hz (by decide)))
      exact ⟨_, s_one (hA l D D' hD (kD.miss hno) hD' hl fun H2 e => e_item0 (gi H2 e) (tup_get (n := 1) (by decide) rfl)) rfl, rfl, hl, ⟨D', get_set hD, kD'⟩, x.ext.trans (.set (.head _))⟩
    · exact absurd (of_decide_eq_true c) hw
  · rcases isLab a with ⟨l, rfl⟩ | ⟨hw, _⟩
    · exact absurd rfl (of_decide_eq_false c)
    · exact ⟨_, rfl, rfl, hl, ⟨D, hD, kD.skip hw⟩, x.ext⟩
structure Labs (H : Hp) (B : List Row) (w : Nat) (H2 : Hp) : Prop where
  ext : Ext H H2
  tab : ∃ D, H2[w]? = some (.dict D) ∧ WOk D B
  new : H.length ≤ w
theorem WOk.nil : WOk .emp [] := .inl ⟨rfl, fun p l h => nomatch h⟩
theorem label_places_ok {bq : Nat} (hb : H[bq]? = some (.list (B.map Row.enc))) (hu : Uniq B) (hz : B.length < 50000) : RunR (P.label_places [.ref bq] H) (Labs H B) := by
  have e1 : Ext H (H ++ [.dict .emp]) := .push
  refine RunR_fn rfl (.of (s_asg (X := .ref H.length) (H1 := H ++ [.dict .emp]) rfl rfl) (Run.forI (l := B) (PI (upd (args ["block"] [.ref bq]) "where" (.ref H.length)) H.length H) (Nat.lt_trans hz (by decide)) ((e_len (e_var rfl) (e1.get hb)).trans (by rw [List.length_map])) ⟨fun _ _ => rfl, ⟨.emp, get_new, .nil⟩, e1.any⟩ (fun d a t m H' h i => ?_) fun m H' i => ?_))
  · exact i.step rfl hb (Nat.ne_of_lt (lt_of hb)) h hu hz fun l D D' hD _ hD' hl g => s_one (s_item (e_var upd_self) (e_var (hl _ (by decide))) (g H' rfl) hD hD') rfl
  · exact Run.ret (e_var (i.loc _ (by decide))) ⟨H.length, rfl, i.ext.fresh (Nat.le_refl _), i.tab, Nat.le_refl _⟩
end
/-- the row of a chain that leaves a way back -/
noncomputable def altRow (w : Int) (b : Bool) (l : Int) : Row := cond b (.try_ l w) (.retry l)
section
variable (B : List Row) (many wide : Int) (key : Key) (cc : Nat)
mutual
/-- a walk from a place: `true` entered forwards, `false` by backtracking; the clauses visited; a bound on the rows seen -/
inductive W : Bool → List Row → List Int → Nat → Prop
  | clause {l : Int} {r : List Row} {n : Nat} : 0 ≤ l → l < many → 1 ≤ n → W true (.lab l :: r) [l] n
  | lab {l : Int} {r : List Row} {o : List Int} {n1 n : Nat} : many ≤ l → W true r o n1 → n1 + 1 ≤ n → W true (.lab l :: r) o n
  | alt {b : Bool} {l : Int} {r : List Row} {o1 o2 : List Int} {n1 n2 n : Nat} : J l o1 n1 → W false r o2 n2 → cc * (n1 + 1) + n2 ≤ n → W b (altRow wide b l :: r) (o1 ++ o2) n
  | trust {l : Int} {r : List Row} {o : List Int} {n1 n : Nat} : J l o n1 → n1 + 1 ≤ n → W false (.trust l :: r) o n
  | swt {v c li s : Int} {r : List Row} {o : List Int} {n1 n : Nat} : J (sel key (.swt v c li s)) o n1 → n1 + 2 ≤ n → W true (.swt v c li s :: r) o n
  | sw {k : Kind} {ps : List (Key × Int)} {d : Int} {r : List Row} {f : Int → List Int} {n1 n : Nat} : okTab key k ps → (∀ p ∈ ps, J p.2 (f p.2) n1) → J d (f d) n1 → n1 + 2 ≤ n → W true (.sw k ps d :: r) (f (look key d ps)) n
/-- where a label leads -/
inductive J : Int → List Int → Nat → Prop
  | fail {n : Nat} : J (-1) [] n
  | go {l : Int} {pre r : List Row} {o : List Int} {n : Nat} : 0 ≤ l → B = pre ++ .lab l :: r → W true (.lab l :: r) o n → J l o n
end
end
section
variable {B : List Row} {many wide : Int} {key : Key} {cc : Nat}
theorem look_mem (key : Key) (d : Int) : ∀ ps : List (Key × Int), look key d ps = d ∨ ∃ p ∈ ps, look key d ps = p.2
  | [] => .inl rfl
  | p :: ps => by
    unfold look
    split
    · exact .inr ⟨p, List.mem_cons_self, rfl⟩
    · exact (look_mem key d ps).imp id fun ⟨q, hq, h⟩ => ⟨q, List.mem_cons_of_mem _ hq, h⟩
theorem look_of {P : Int → Prop} {ps : List (Key × Int)} {d : Int} (h1 : ∀ p ∈ ps, P p.2) (h2 : P d) : P (look key d ps) := by
  rcases look_mem key d ps with h | ⟨q, hq, h⟩
  · rw [h]; exact h2
  · rw [h]; exact h1 q hq
/-- both predicates at once -/
theorem W_both {P : Bool → List Row → List Int → Nat → Prop} {Q : Int → List Int → Nat → Prop}
    (clause : ∀ {l : Int} {r : List Row} {n : Nat}, 0 ≤ l → l < many → 1 ≤ n → P true (.lab l :: r) [l] n)
    (lab : ∀ {l : Int} {r : List Row} {o : List Int} {n1 n : Nat}, many ≤ l → P true r o n1 → n1 + 1 ≤ n → P true (.lab l :: r) o n)
    (alt : ∀ {b : Bool} {l : Int} {r : List Row} {o1 o2 : List Int} {n1 n2 n : Nat}, Q l o1 n1 → P false r o2 n2 → cc * (n1 + 1) + n2 ≤ n → P b (altRow wide b l :: r) (o1 ++ o2) n)
    (trust : ∀ {l : Int} {r : List Row} {o : List Int} {n1 n : Nat}, Q l o n1 → n1 + 1 ≤ n → P false (.trust l :: r) o n)
    (swt : ∀ {v c li s : Int} {r : List Row} {o : List Int} {n1 n : Nat}, Q (sel key (.swt v c li s)) o n1 → n1 + 2 ≤ n → P true (.swt v c li s :: r) o n)
    (sw : ∀ {k : Kind} {ps : List (Key × Int)} {d : Int} {r : List Row} {f : Int → List Int} {n1 n : Nat}, okTab key k ps → (∀ p ∈ ps, Q p.2 (f p.2) n1) → Q d (f d) n1 → n1 + 2 ≤ n → P true (.sw k ps d :: r) (f (look key d ps)) n)
    (fail : ∀ {n : Nat}, Q (-1) [] n) (go : ∀ {l : Int} {pre r : List Row} {o : List Int} {n : Nat}, 0 ≤ l → B = pre ++ .lab l :: r → P true (.lab l :: r) o n → Q l o n) :
    (∀ {b : Bool} {s : List Row} {o : List Int} {n : Nat}, W B many wide key cc b s o n → P b s o n) ∧ ∀ {l : Int} {o : List Int} {n : Nat}, J B many wide key cc l o n → Q l o n :=
  ⟨fun h => W.rec (motive_1 := fun b s o n _ => P b s o n) (motive_2 := fun l o n _ => Q l o n) (fun a b c => clause a b c) (fun a _ c ih => lab a ih c) (fun _ _ c i1 i2 => alt i1 i2 c) (fun _ c ih => trust ih c) (fun _ c ih => swt ih c) (fun a _ _ c i1 i2 => sw a i1 i2 c) fail (fun a b _ ih => go a b ih) h,
    fun h => J.rec (motive_1 := fun b s o n _ => P b s o n) (motive_2 := fun l o n _ => Q l o n) (fun a b c => clause a b c) (fun a _ c ih => lab a ih c) (fun _ _ c i1 i2 => alt i1 i2 c) (fun _ c ih => trust ih c) (fun _ c ih => swt ih c) (fun a _ _ c i1 i2 => sw a i1 i2 c) fail (fun a b _ ih => go a b ih) h⟩
/-- what holds along a walk; `sel`: of the label that a switch leads to -/
theorem W_ind {P : Bool → List Row → List Int → Nat → Prop} {Q : Int → List Int → Nat → Prop} (hc : 1 ≤ cc)
    (clause : ∀ {l : Int} {r : List Row} {n : Nat}, 0 ≤ l → l < many → 1 ≤ n → P true (.lab l :: r) [l] n)
    (lab : ∀ {l : Int} {r : List Row} {o : List Int} {n1 n : Nat}, many ≤ l → P true r o n1 → n1 + 1 ≤ n → P true (.lab l :: r) o n)
    (alt : ∀ {b : Bool} {l : Int} {r : List Row} {o1 o2 : List Int} {n1 n2 n : Nat}, Q l o1 n1 → P false r o2 n2 → n1 + 1 + n2 ≤ n → P b (altRow wide b l :: r) (o1 ++ o2) n)
    (trust : ∀ {l : Int} {r : List Row} {o : List Int} {n1 n : Nat}, Q l o n1 → n1 + 1 ≤ n → P false (.trust l :: r) o n)
    (jump : ∀ {row : Row} {r : List Row} {o : List Int} {n1 n : Nat}, (∃ v c li s, row = .swt v c li s) ∨ (∃ k ps d, row = .sw k ps d ∧ okTab key k ps) → Q (sel key row) o n1 → n1 + 1 ≤ n → P true (row :: r) o n)
    (fail : ∀ {n : Nat}, Q (-1) [] n) (go : ∀ {l : Int} {pre r : List Row} {o : List Int} {n : Nat}, 0 ≤ l → B = pre ++ .lab l :: r → P true (.lab l :: r) o n → Q l o n) :
    (∀ {b : Bool} {s : List Row} {o : List Int} {n : Nat}, W B many wide key cc b s o n → P b s o n) ∧ ∀ {l : Int} {o : List Int} {n : Nat}, J B many wide key cc l o n → Q l o n := by
  exact W_both clause lab (fun a b h => alt a b (Nat.le_trans (Nat.add_le_add_right (Nat.le_mul_of_pos_left _ hc) _) h)) trust (fun ih c => jump (.inl ⟨_, _, _, _, rfl⟩) ih (Nat.le_of_succ_le c)) (fun {k ps d r f n1 n} a b c h => jump (.inr ⟨k, ps, d, rfl, a⟩) (look_of (P := fun l => Q l (f l) n1) b c) (Nat.le_of_succ_le h)) fail go
theorem W_len (hc : 1 ≤ cc) : (∀ {b : Bool} {s : List Row} {o : List Int} {n : Nat}, W B many wide key cc b s o n → o.length ≤ n ∧ 1 ≤ n) ∧ ∀ {l : Int} {o : List Int} {n : Nat}, J B many wide key cc l o n → o.length ≤ n :=
  W_ind hc (P := fun _ _ o n => o.length ≤ n ∧ 1 ≤ n) (Q := fun _ o n => o.length ≤ n) (fun _ _ h => ⟨h, h⟩) (fun _ a h => ⟨Nat.le_trans a.1 (Nat.le_of_succ_le h), Nat.le_trans (Nat.succ_le_succ (Nat.zero_le _)) h⟩)
    (fun {_ _ _ o1 o2 n1 n2 n} a b h => ⟨by rw [List.length_append]; exact Nat.le_trans (Nat.add_le_add (Nat.le_succ_of_le a) b.1) h, Nat.le_trans (Nat.le_trans b.2 (Nat.le_add_left _ _)) h⟩)
    (fun a h => ⟨Nat.le_trans a (Nat.le_of_succ_le h), Nat.le_trans (Nat.succ_le_succ (Nat.zero_le _)) h⟩) (fun _ a h => ⟨Nat.le_trans a (Nat.le_of_succ_le h), Nat.le_trans (Nat.succ_le_succ (Nat.zero_le _)) h⟩) (Nat.zero_le _) fun _ _ a => a.1
theorem W.len (hc : 1 ≤ cc) {b : Bool} {s : List Row} {o : List Int} {n : Nat} (h : W B many wide key cc b s o n) : o.length ≤ n ∧ 1 ≤ n := (W_len hc).1 h
theorem W_range (hc : 1 ≤ cc) : (∀ {b : Bool} {s : List Row} {o : List Int} {n : Nat}, W B many wide key cc b s o n → ∀ x ∈ o, 0 ≤ x ∧ x < many) ∧ ∀ {l : Int} {o : List Int} {n : Nat}, J B many wide key cc l o n → ∀ x ∈ o, 0 ≤ x ∧ x < many :=
  W_ind hc (P := fun _ _ o _ => ∀ x ∈ o, 0 ≤ x ∧ x < many) (Q := fun _ o _ => ∀ x ∈ o, 0 ≤ x ∧ x < many) (fun a b _ x hx => List.mem_singleton.mp hx ▸ ⟨a, b⟩) (fun _ a _ => a) (fun a b _ x hx => (List.mem_append.mp hx).elim (a x) (b x)) (fun a _ => a) (fun _ a _ => a) (fun _ h => nomatch h) fun _ _ a => a
theorem W.range (hc : 1 ≤ cc) {b : Bool} {s : List Row} {o : List Int} {n : Nat} (h : W B many wide key cc b s o n) : ∀ x ∈ o, 0 ≤ x ∧ x < many := (W_range hc).1 h
theorem row_at {p : Nat} {r : Row} {s : List Row} (h : B.drop p = r :: s) : B[p]? = some r ∧ B.drop (p + 1) = s := by
  have h1 : (B.drop p)[0]? = some r := by rw [h]; rfl
  rw [List.getElem?_drop, Nat.add_zero] at h1
  exact ⟨h1, by rw [← List.drop_drop, h]; rfl⟩
theorem drop_pre {pre s : List Row} (h : B = pre ++ s) : B.drop pre.length = s := by rw [h, List.drop_left]
/-- the sums along a walk -/
theorem ar_alt {L F n n1 n2 N o : Nat} (h : n1 + 1 + n2 ≤ n) (hB : L + F + 2 * n < 40000) (hN : n ≤ N) (ho : o ≤ n1) :
    ∃ N', N = N' + 1 ∧ L + 1 + F + 2 * n1 < 40000 ∧ n1 ≤ N' ∧ L + (F + o) + 2 * n2 < 40000 ∧ ∀ N2, N' ≤ N2 + n1 → n2 ≤ N2 ∧ ∀ N3, N2 ≤ N3 + n2 → N ≤ N3 + n := by
  obtain ⟨N', rfl⟩ : ∃ k, N = k + 1 := ⟨N - 1, by omega⟩
  exact ⟨N', rfl, by omega, by omega, by omega, fun N2 h2 => ⟨by omega, fun N3 h3 => by omega⟩⟩
theorem ar_one {L F n n1 N : Nat} (h : n1 + 1 ≤ n) (hB : L + F + 2 * n < 40000) (hN : n ≤ N) : ∃ N', N = N' + 1 ∧ L + F + 2 * n1 < 40000 ∧ n1 ≤ N' ∧ ∀ N2, N' ≤ N2 + n1 → N ≤ N2 + n := by
  obtain ⟨N', rfl⟩ : ∃ k, N = k + 1 := ⟨N - 1, by omega⟩
  exact ⟨N', rfl, by omega, by omega, fun N2 h2 => by omega⟩
theorem ar_lt {L F n : Nat} (hB : L + F + 2 * n < 40000) : L < 50000 ∧ F < 60000 := ⟨by omega, by omega⟩
end
/-! tried_clauses -/
structure TX where
  B : List Row
  many : Int
  key : Key
  (bq wq fq pq : Nat)
  H0 : Hp
structure TS (X : TX) (L : List Nat) (F : List Int) (m : Loc) (H : Hp) : Prop where
  loc : ∀ p ∈ [("block", V.ref X.bq), ("where", .ref X.wq), ("found", .ref X.fq), ("pending", .ref X.pq), ("count", .int X.many), ("key", X.key.enc)], m p.1 = some p.2
  hb : H[X.bq]? = some (.list (X.B.map Row.enc))
  hw : ∃ D, H[X.wq]? = some (.dict D) ∧ WOk D X.B
  hf : H[X.fq]? = some (.list (F.map .int))
  hp : H[X.pq]? = some (.list (nats L))
  ne : X.fq ≠ X.pq ∧ X.bq ≠ X.fq ∧ X.bq ≠ X.pq ∧ X.wq ≠ X.fq ∧ X.wq ≠ X.pq
  ext : ExtB [X.fq, X.pq] X.H0 H
section
variable {X : TX} {L L' : List Nat} {F F' : List Int} {m m' : Loc} {H : Hp}
theorem TS.mb (x : TS X L F m H) : m "block" = some (.ref X.bq) := x.loc ("block", .ref X.bq) (.head _)
theorem TS.mw (x : TS X L F m H) : m "where" = some (.ref X.wq) := x.loc ("where", .ref X.wq) (.tail _ (.head _))
theorem TS.mf (x : TS X L F m H) : m "found" = some (.ref X.fq) := x.loc ("found", .ref X.fq) (.tail _ (.tail _ (.head _)))
theorem TS.mp (x : TS X L F m H) : m "pending" = some (.ref X.pq) := x.loc ("pending", .ref X.pq) (.tail _ (.tail _ (.tail _ (.head _))))
theorem TS.mc (x : TS X L F m H) : m "count" = some (.int X.many) := x.loc ("count", .int X.many) (.tail _ (.tail _ (.tail _ (.tail _ (.head _)))))
theorem TS.mkey (x : TS X L F m H) : m "key" = some X.key.enc := x.loc ("key", X.key.enc) (.tail _ (.tail _ (.tail _ (.tail _ (.tail _ (.head _))))))
theorem TS.pend (x : TS X L F m H) (L' : List Nat) : TS X L' F m (H.set X.pq (.list (nats L'))) :=
  ⟨x.loc, (List.getElem?_set_ne (Ne.symm x.ne.2.2.1)).trans x.hb, let ⟨D, hD, kD⟩ := x.hw; ⟨D, (List.getElem?_set_ne (Ne.symm x.ne.2.2.2.2)).trans hD, kD⟩, (List.getElem?_set_ne (Ne.symm x.ne.1)).trans x.hf, get_set x.hp, x.ne, x.ext.trans (.set (.tail _ (.head _)))⟩
theorem TS.find (x : TS X L F m H) (F' : List Int) : TS X L F' m (H.set X.fq (.list (F'.map .int))) :=
  ⟨x.loc, (List.getElem?_set_ne (Ne.symm x.ne.2.1)).trans x.hb, let ⟨D, hD, kD⟩ := x.hw; ⟨D, (List.getElem?_set_ne (Ne.symm x.ne.2.2.2.1)).trans hD, kD⟩, get_set x.hf, (List.getElem?_set_ne x.ne.1).trans x.hp, x.ne, x.ext.trans (.set (.head _))⟩
theorem TS.upd (x : TS X L F m H) {y : String} {v : V} (h : y ∉ ["block", "where", "found", "pending", "count", "key"]) : TS X L F (upd m y v) H :=
  have k : ∀ p ∈ [("block", V.ref X.bq), ("where", .ref X.wq), ("found", .ref X.fq), ("pending", .ref X.pq), ("count", .int X.many), ("key", X.key.enc)], p.1 ∈ ["block", "where", "found", "pending", "count", "key"] := fun _ hp => List.mem_map_of_mem (f := Prod.fst) hp
  ⟨fun p hp => (upd_ne (fun (e : p.1 = y) => h (e ▸ k p hp))).trans (x.loc p hp), x.hb, x.hw, x.hf, x.hp, x.ne, x.ext⟩
/-- the places that a label adds -/
noncomputable def tgt (l : Int) (B : List Row) (q : List Nat) : Prop := (l = -1 ∧ q = []) ∨ (0 ≤ l ∧ ∃ p : Nat, B[p]? = some (.lab l) ∧ q = [p])
theorem e_where {wq : Nat} {D : Dct} {B : List Row} {l : Int} {p : Nat} (h : H[wq]? = some (.dict D)) (k : WOk D B) (hp : B[p]? = some (.lab l)) : getI H (.ref wq) (.int l) = some (.int p) := by
  rw [h_get h]
  show Option.join _ = _
  rw [k.hit hp]; rfl
theorem nats_snoc (L : List Nat) (p : Nat) : nats (L ++ [p]) = nats L ++ [V.int p] := nats_append L [p]
/-- the end of a turn: the target's place is added -/
theorem tried_end {l : Int} {q : List Nat} (x : TS X L F m H) (ht : m "target" = some (.int l)) (hq : tgt l X.B q) (hL : L.length < 60000) :
    Run (S.seq (S.iff (T.cmp .NotEq (E.var "target") (E.const (.int (-1)))) (S.seq (S.expr (E.lmeth E.opAppend (E.var "pending") [E.item (E.var "where") (E.var "target")])) S.nil) S.nil) S.nil m H) fun z => z.1 = Fl.next ∧ TS X (L ++ q) F z.2.1 z.2.2 := by
  rcases hq with ⟨rfl, rfl⟩ | ⟨h0, p, hp, rfl⟩
  · rw [List.append_nil]
    exact ⟨_, s_skip (t_nei (e_var ht)) rfl, rfl, x⟩
  · obtain ⟨D, hD, kD⟩ := x.hw
    have y := x.pend (L ++ [p])
    rw [nats_snoc] at y
    exact ⟨_, s_iffT ((t_nei (e_var ht)).trans (by rw [decide_eq_false (by omega)]; rfl)) (s_assoc.trans (s_expr (e_app (e_var x.mp) x.hp (e_itemvv x.mw ht (e_where hD kD hp)) x.hp (lt_big (by rw [nats_len]; omega))) rfl)), rfl, y⟩
/-- what a row does to the places left and to the clauses found -/
inductive TStep (X : TX) (p : Nat) (L : List Nat) (F : List Int) : Row → List Nat → List Int → Prop
  | clause {l : Int} : l < X.many → TStep X p L F (.lab l) L (F ++ [l])
  | lab {l : Int} : X.many ≤ l → TStep X p L F (.lab l) (L ++ [p + 1]) F
  | alt {w : Int} {b : Bool} {l : Int} {q : List Nat} : tgt l X.B q → TStep X p L F (altRow w b l) (L ++ [p + 1] ++ q) F
  | jump {row : Row} {q : List Nat} : (∃ l, row = .trust l) ∨ (∃ v c li s, row = .swt v c li s) ∨ (∃ k ps d, row = .sw k ps d ∧ okTab X.key k ps) → tgt (sel X.key row) X.B q → TStep X p L F row (L ++ q) F
theorem tried_step {p : Nat} {row : Row} (x : TS X (L ++ [p]) F m H) (hr : X.B[p]? = some row) (hL : L.length < 50000) (hF : F.length < 60000) (hs : TStep X p L F row L' F') :
    Run (P.tried_clauses_test m H) fun t => t.1 = true ∧ Run (P.tried_clauses_work m t.2) fun z => z.1 = Fl.next ∧ TS X L' F' z.2.1 z.2.2 := by
  have hp := x.hp
  rw [nats_snoc] at hp
  refine ⟨(true, H), (t_gt (e_len (e_var x.mp) hp) rfl).trans (by rw [decide_eq_true]; rw [List.length_append]; exact Int.natCast_pos.mpr (Nat.succ_pos _)), rfl, ?_⟩
  have y0 := x.pend L
  refine Run.of (s_asg (e_pop (e_var x.mp) hp) rfl) ?_
  dsimp only at y0 ⊢
  generalize H.set X.pq (.list (nats L)) = A at *
  have y1 := y0.upd (y := "place") (v := .int p) (by decide)
  refine Run.of (s_asg (e_itemvv y1.mb upd_self (block_get y1.hb hr)) rfl) ?_
  have y2 := y1.upd (y := "ins") (v := row.enc) (by decide)
  refine Run.of (s_asg (e_itemv upd_self (Row.get0 A row)) rfl) ?_
  have y3 := y2.upd (y := "name") (v := .str row.word) (by decide)
  refine Run.of (s_asg (X := .int (-1)) rfl rfl) ?_
  have y := y3.upd (y := "target") (v := .int (-1)) (by decide)
  have hp : upd (upd (upd (upd m "place" (.int p)) "ins" row.enc) "name" (.str row.word)) "target" (.int (-1)) "place" = some (.int p) := rfl
  have hi : upd (upd (upd (upd m "place" (.int p)) "ins" row.enc) "name" (.str row.word)) "target" (.int (-1)) "ins" = some row.enc := rfl
  have hn : upd (upd (upd (upd m "place" (.int p)) "ins" row.enc) "name" (.str row.word)) "target" (.int (-1)) "name" = some (.str row.word) := rfl
  have ht : upd (upd (upd (upd m "place" (.int p)) "ins" row.enc) "name" (.str row.word)) "target" (.int (-1)) "target" = some (.int (-1)) := rfl
  clear y0 y1 y2 y3 x
  generalize upd (upd (upd (upd m "place" (.int p)) "ins" row.enc) "name" (.str row.word)) "target" (.int (-1)) = m1 at *
  have nm : ∀ s : String, T.cmp .Eq (E.var "name") (E.const (.str s)) m1 A = some (decide (row.word = s), A) := fun s => t_eqs (e_var hn)
  have ep : E.bin .Add (E.var "place") (E.const (.int 1)) m1 A = some (.int ((p + 1 : Nat) : Int), A) := (e_add (i2 := 1) (e_var hp) rfl).trans (by rw [Int.natCast_add]; rfl)
  have push := fun R P (h : Run (R m1 (A.set X.pq (.list (nats (L ++ [p + 1]))))) P) => Run.of (s_expr (R := R) (e_app (e_var y.mp) y.hp ep y.hp (lt_big (by rw [nats_len]; omega))) rfl) (by rw [← nats_snoc]; exact h)
  have g1 : ∀ l, row.two = some l → E.item (E.var "ins") (E.const (.int 1)) m1 A = some (.int l, A) := fun l h => e_itemv hi (Row.get1 h)
  cases hs with
  | @clause l h =>
    refine Run.of (s_iffT (nm _) rfl) (Run.of (s_assoc.trans (s_iffT ((t_lt (g1 l rfl) (e_var y.mc)).trans (by rw [decide_eq_true h])) (s_assoc.trans (s_expr (e_app (e_var y.mf) y.hf (g1 l rfl) y.hf (lt_big (by rw [List.length_map]; omega))) rfl)))) ?_)
    have z := y.find (F ++ [l])
    rw [List.map_append] at z
    have := tried_end z ht (.inl ⟨rfl, rfl⟩) (by omega)
    rw [List.append_nil] at this
    exact this
  | @lab l h =>
    refine Run.of (s_iffT (nm _) rfl) (Run.of (s_assoc.trans (s_iffF ((t_lt (g1 l rfl) (e_var y.mc)).trans (by rw [decide_eq_false (Int.not_lt.mpr h)])) s_assoc)) (push _ _ ?_))
    have := tried_end (y.pend (L ++ [p + 1])) ht (.inl ⟨rfl, rfl⟩) (by rw [List.length_append]; exact Nat.lt_of_lt_of_le (Nat.succ_lt_succ hL) (by decide))
    rw [List.append_nil] at this
    exact this
  | @alt w b l q hq =>
    have hw : (altRow w b l).word = "try" ∨ (altRow w b l).word = "retry" := by cases b; exact .inr rfl; exact .inl rfl
    have h2 : (altRow w b l).two = some l := by cases b <;> rfl
    refine Run.of (s_iffF ((nm "label").trans (by rcases hw with h | h <;> rw [h] <;> rfl)) s_assoc) (Run.of (s_iffT ((t_or2 (nm "try") (nm "retry")).trans (by rcases hw with h | h <;> rw [h] <;> rfl)) s_assoc) (push _ _ ?_))
    have z := y.pend (L ++ [p + 1])
    refine Run.of (s_assoc.trans (s_asg (e_itemv hi (Row.get1 h2)) rfl)) ?_
    exact tried_end (m := upd m1 "target" (.int l)) (z.upd (by decide)) upd_self hq (by rw [List.length_append]; exact Nat.lt_of_lt_of_le (Nat.succ_lt_succ hL) (by decide))
  | @jump row q hk hq =>
    have fin : ∀ {e : Ex}, e m1 A = some (.int (sel X.key row), A) → Run (S.seq (S.seq (S.asg "target" e) S.nil) (S.seq (S.iff (T.cmp .NotEq (E.var "target") (E.const (.int (-1)))) (S.seq (S.expr (E.lmeth E.opAppend (E.var "pending") [E.item (E.var "where") (E.var "target")])) S.nil) S.nil) S.nil) m1 A) fun z => z.1 = Fl.next ∧ TS X (L ++ q) F z.2.1 z.2.2 :=
      fun h => Run.of (s_assoc.trans (s_asg h rfl)) (tried_end (m := upd m1 "target" (.int (sel X.key row))) (y.upd (by decide)) upd_self hq (by omega))
    have no : ∀ {s1 s2 s3 : String}, row.word ≠ s1 → row.word ≠ s2 → row.word ≠ s3 → ∀ {A1 A2 R2 R : Sx} {P}, Run (S.seq R2 R m1 A) P → Run (S.seq (S.iff (T.cmp .Eq (E.var "name") (E.const (.str s1))) A1 (S.seq (S.iff (T.or [T.cmp .Eq (E.var "name") (E.const (.str s2)), T.cmp .Eq (E.var "name") (E.const (.str s3))]) A2 R2) S.nil)) R m1 A) P :=
      fun h1 h2 h3 _ _ _ _ _ h => Run.of (s_iffF ((nm _).trans (by rw [decide_eq_false h1])) (s_assoc.trans (s_iffF ((t_or2 (nm _) (nm _)).trans (by rw [decide_eq_false h2, decide_eq_false h3]; rfl)) rfl))) h
    rcases hk with ⟨l, rfl⟩ | ⟨v, c, li, s, rfl⟩ | ⟨k, ps, d, rfl, hok⟩
    · refine no (show "trust" ≠ "label" by decide) (show "trust" ≠ "try" by decide) (show "trust" ≠ "retry" by decide) ?_
      exact Run.of (s_assoc.trans (s_iffT (nm _) rfl)) (fin (g1 l rfl))
    · refine no (show "switch_on_term" ≠ "label" by decide) (show "switch_on_term" ≠ "try" by decide) (show "switch_on_term" ≠ "retry" by decide) ?_
      refine Run.of (s_assoc.trans (s_iffF (nm _) s_assoc)) (Run.of (s_iffT (nm _) rfl) ?_)
      exact fin (e_call2 (e_var hi) (e_var y.mkey) (switch_target_ok v c li s X.key A))
    · have hw : (Row.sw k ps d).word = "switch_on_constant" ∨ (Row.sw k ps d).word = "switch_on_structure" := by simp only [Row.word]; split <;> simp
      have hor : (decide ((Row.sw k ps d).word = "switch_on_constant") || decide ((Row.sw k ps d).word = "switch_on_structure")) = true := by rcases hw with h | h <;> rw [h] <;> rfl
      have nw : ∀ s, s ≠ "switch_on_constant" → s ≠ "switch_on_structure" → (Row.sw k ps d).word ≠ s := fun s a b e => hw.elim (fun h => a (e.symm.trans h)) fun h => b (e.symm.trans h)
      refine no (nw _ (by decide) (by decide)) (nw _ (by decide) (by decide)) (nw _ (by decide) (by decide)) ?_
      refine Run.of (s_assoc.trans (s_iffF ((nm _).trans (by rw [decide_eq_false (nw _ (by decide) (by decide))])) (s_assoc.trans (s_iffF ((nm _).trans (by rw [decide_eq_false (nw _ (by decide) (by decide))])) (s_assoc.trans (s_iffT ((t_or2 (nm _) (nm _)).trans (by rw [hor])) rfl)))))) ?_
      exact fin (e_call2 (e_var hi) (e_var y.mkey) (table_target_ok hok A))
end
theorem whl_step {t : Tx} {b : Sx} {N : Nat} {m : Loc} {H : Hp} {Post : Fl × Loc × Hp → Prop} {Q : Loc → Hp → Prop} (h : Run (t m H) fun t => t.1 = true ∧ Run (b m t.2) fun z => z.1 = Fl.next ∧ Q z.2.1 z.2.2) (k : ∀ m' H', Q m' H' → Run (S.whl t b N m' H') Post) : Run (S.whl t b (N + 1) m H) Post := by
  obtain ⟨⟨t1, H1⟩, e1, rfl, ⟨fl, m2, H2⟩, e2, rfl, hq⟩ := h
  unfold S.whl
  rw [e1, Option.bind_some]
  dsimp only
  dsimp only at e2
  rw [e2, Option.bind_some]
  exact k m2 H2 hq
section
variable {X : TX} {wide : Int} {cc : Nat}
/-- the loop from the places q -/
noncomputable def TQ (X : TX) (q : List Nat) (o : List Int) (n : Nat) : Prop :=
  ∀ (L : List Nat) (F : List Int) (m : Loc) (H : Hp) (N : Nat) (Post : Fl × Loc × Hp → Prop), TS X (L ++ q) F m H → L.length + F.length + 2 * n < 40000 → n ≤ N →
    (∀ m' H' N', N ≤ N' + n → TS X L (F ++ o) m' H' → Run (S.whl P.tried_clauses_test P.tried_clauses_work N' m' H') Post) → Run (S.whl P.tried_clauses_test P.tried_clauses_work N m H) Post
noncomputable def TW (X : TX) (s : List Row) (o : List Int) (n : Nat) : Prop := o.length ≤ n ∧ 1 ≤ n ∧ ∀ p : Nat, X.B.drop p = s → TQ X [p] o n
noncomputable def TJ (X : TX) (l : Int) (o : List Int) (n : Nat) : Prop := o.length ≤ n ∧ ∃ q, tgt l X.B q ∧ TQ X q o n
/-- one row, then the rest -/
theorem TW.step {row : Row} {r : List Row} {o : List Int} {n1 n : Nat} (hn : n1 + 1 ≤ n) (ho : o.length ≤ n1) (h : ∀ p : Nat, X.B.drop (p + 1) = r → ∃ q, TQ X q o n1 ∧ ∀ L F, TStep X p L F row (L ++ q) F) : TW X (row :: r) o n :=
  ⟨Nat.le_trans ho (Nat.le_of_succ_le hn), Nat.le_trans (Nat.succ_le_succ (Nat.zero_le _)) hn, fun p hp L F m H N Post x hB hN k => by
    obtain ⟨q, tq, st⟩ := h p (row_at hp).2
    obtain ⟨N', rfl, b1, b2, b3⟩ := ar_one hn hB hN
    have lt := ar_lt hB
    exact whl_step (tried_step x (row_at hp).1 lt.1 lt.2 (st L F)) fun m' H' y => tq L F m' H' N' Post y b1 b2 fun m2 H2 N2 h2 y2 => k m2 H2 N2 (b3 N2 h2) y2⟩
theorem W_tried (hc : 1 ≤ cc) : (∀ {b : Bool} {s : List Row} {o : List Int} {n : Nat}, W X.B X.many wide X.key cc b s o n → TW X s o n) ∧ ∀ {l : Int} {o : List Int} {n : Nat}, J X.B X.many wide X.key cc l o n → TJ X l o n := by
  refine W_ind hc (P := fun _ s o n => TW X s o n) (Q := TJ X) (fun {l r n} _ hl hn => ⟨hn, hn, fun p hp L F m H N Post x hB hN k => ?_⟩) (fun hl i hn => .step hn i.1 fun p hp => ⟨[p + 1], i.2.2 (p + 1) hp, fun L F => .lab hl⟩) (fun {b l r o1 o2 n1 n2 n} i1 i2 h => ⟨?_, ?_, fun p hp L F m H N Post x hB hN k => ?_⟩)
    (fun i hn => .step hn i.1 fun p _ => let ⟨q, hq, tq⟩ := i.2; ⟨q, tq, fun L F => .jump (.inl ⟨_, rfl⟩) hq⟩) (fun hr i hn => .step hn i.1 fun p _ => let ⟨q, hq, tq⟩ := i.2; ⟨q, tq, fun L F => .jump (.inr hr) hq⟩)
    ⟨Nat.zero_le _, [], .inl ⟨rfl, rfl⟩, fun L F m H N Post x _ _ k => k m H N (Nat.le_add_right _ _) (by rw [List.append_nil] at x ⊢; exact x)⟩ fun {l pre r o n} h0 hB i => ⟨i.1, [pre.length], .inr ⟨h0, pre.length, (row_at (drop_pre hB)).1, rfl⟩, i.2.2 _ (drop_pre hB)⟩
  · obtain ⟨N', rfl, _, _, b3⟩ := ar_one (n1 := 0) hn hB hN
    have lt := ar_lt hB
    exact whl_step (tried_step x (row_at hp).1 lt.1 lt.2 (.clause hl)) fun m' H' y => k m' H' N' (b3 N' (Nat.le_refl _)) y
  · rw [List.length_append]; exact Nat.le_trans (Nat.add_le_add (Nat.le_succ_of_le i1.1) i2.1) h
  · exact Nat.le_trans (Nat.le_trans i2.2.1 (Nat.le_add_left _ _)) h
  · obtain ⟨N', rfl, b1, b2, b3, b4⟩ := ar_alt h hB hN i1.1
    have lt := ar_lt hB
    obtain ⟨l1, q, hq, tq⟩ := i1
    refine whl_step (tried_step x (row_at hp).1 lt.1 lt.2 (.alt hq)) fun m' H' y => tq (L ++ [p + 1]) F m' H' N' Post y (by rw [List.length_append]; exact b1) b2 fun m2 H2 N2 h2 y2 => ?_
    obtain ⟨c1, c2⟩ := b4 N2 h2
    exact i2.2.2 (p + 1) (row_at hp).2 L (F ++ o1) m2 H2 N2 Post y2 (by rw [List.length_append]; exact b3) c1 fun m3 H3 N3 h3 y3 => k m3 H3 N3 (c2 N3 h3) (by rw [← List.append_assoc]; exact y3)
theorem tried_ok {B : List Row} {many wide : Int} {key : Key} {cc bq : Nat} {H : Hp} {o : List Int} {n : Nat} (hw : W B many wide key cc true B o n) (hc : 1 ≤ cc) (hn : n ≤ 900) (hu : Uniq B) (hz : B.length < 50000) (h2 : 2 ≤ many) (hb : H[bq]? = some (.list (B.map Row.enc))) :
    RunR (P.tried_clauses [.ref bq, .int many, key.enc] H) (NewL H (o.map .int)) := by
  refine RunR_fn rfl ?_
  have hmany : args ["block", "count", "key"] [.ref bq, .int many, key.enc] "count" = some (.int many) := rfl
  refine Run.of (s_skip ((t_eqi (e_var hmany)).trans (by rw [decide_eq_false (by omega)])) rfl) ?_
  refine Run.of (s_skip ((t_eqi (e_var hmany)).trans (by rw [decide_eq_false (by omega)])) rfl) ?_
  refine (label_places_ok hb hu hz).use fun w H1 e1 y => ?_
  obtain ⟨D, l1, k1⟩ := y.tab
  have f1 := y.ext
  refine Run.of (s_asg (e_call1 (e_var (X := .ref bq) rfl) e1) rfl) ?_
  refine Run.of (s_asg e_list0 rfl) ?_
  refine Run.of (s_asg (X := .ref (H1 ++ [O.list []]).length) (H1 := H1 ++ [O.list []] ++ [.list (nats [0])]) rfl rfl) ?_
  have l2 : (H1 ++ [O.list []]).length = H1.length + 1 := List.length_append
  rw [l2]
  generalize hm : upd _ "pending" _ = m
  have e2 : Ext H1 (H1 ++ [.list []]) := .push
  have e3 : Ext (H1 ++ [O.list []]) (H1 ++ [O.list []] ++ [.list (nats [0])]) := .push
  have x : TS ⟨B, many, key, bq, w, H1.length, H1.length + 1, H1⟩ [0] [] m (H1 ++ [O.list []] ++ [.list (nats [0])]) := by
    have hlb := lt_of (f1.get hb)
    have hlw := lt_of l1
    subst hm
    refine ⟨?_, e3.get (e2.get (f1.get hb)), ⟨D, e3.get (e2.get l1), k1⟩, e3.get get_new, ?_, ⟨Nat.ne_of_lt (Nat.lt_succ_self _), Nat.ne_of_lt hlb, Nat.ne_of_lt (Nat.lt_succ_of_lt hlb), Nat.ne_of_lt hlw, Nat.ne_of_lt (Nat.lt_succ_of_lt hlw)⟩, Ext.any (e2.trans e3)⟩
    · rintro p (_ | ⟨_, _ | ⟨_, _ | ⟨_, _ | ⟨_, _ | ⟨_, _ | ⟨_, h⟩⟩⟩⟩⟩⟩) <;> first | rfl | cases h
    · rw [← l2]; exact get_new
  clear hm
  have hrun : Run (S.whl P.tried_clauses_test P.tried_clauses_work 1000 m (H1 ++ [O.list []] ++ [.list (nats [0])])) fun z => z.1 = Fl.next ∧ TS ⟨B, many, key, bq, w, H1.length, H1.length + 1, H1⟩ [] o z.2.1 z.2.2 := by
    refine ((W_tried (X := ⟨B, many, key, bq, w, H1.length, H1.length + 1, H1⟩) hc).1 hw).2.2 0 rfl [] [] m _ 1000 _ x (by simp only [List.length_nil]; omega) (by omega) fun m' H' N' h y => ?_
    obtain ⟨N2, rfl⟩ : ∃ k, N' = k + 1 := ⟨N' - 1, by omega⟩
    refine ⟨(.next, m', H'), ?_, rfl, y⟩
    unfold S.whl
    rw [show P.tried_clauses_test m' H' = some (false, H') from t_gt (b := E.const (.int 0)) (e_len (e_var y.mp) y.hp) rfl]
    rfl
  refine Run_seq (hrun.mono ?_)
  rintro ⟨fl, m5, H5⟩ ⟨rfl, y⟩
  dsimp only at y
  exact ⟨rfl, Run.ret (e_var y.mf) ⟨H1.length, rfl, f1.trans ((y.ext.fresh (Nat.le_refl _)).fresh (Nat.le_succ _)), y.hf, f1.2⟩⟩
end
structure VX where
  B : List Row
  many : Int
  wide : Int
  key : Key
  (bq wq fq lq : Nat)
  H0 : Hp
noncomputable def encF (x : Int × Nat) : V := .tup [.int x.1, .int x.2]
noncomputable abbrev vloc (X : VX) : List (String × V) := [("block", .ref X.bq), ("where", .ref X.wq), ("found", .ref X.fq), ("left", .ref X.lq), ("many", .int X.many), ("wide", .int X.wide), ("key", X.key.enc)]
structure VS (X : VX) (p : Nat) (L : List Nat) (F : List (Int × Nat)) (m : Loc) (H : Hp) : Prop where
  loc : ∀ p ∈ vloc X, m p.1 = some p.2
  ma : m "at" = some (.int p)
  hb : H[X.bq]? = some (.list (X.B.map Row.enc))
  hw : ∃ D, H[X.wq]? = some (.dict D) ∧ WOk D X.B
  hf : H[X.fq]? = some (.list (F.map encF))
  hl : H[X.lq]? = some (.list (nats L))
  ne : X.fq ≠ X.lq ∧ X.bq ≠ X.fq ∧ X.bq ≠ X.lq ∧ X.wq ≠ X.fq ∧ X.wq ≠ X.lq
  ext : ExtB [X.fq, X.lq] X.H0 H
section
variable {X : VX} {L L' : List Nat} {F F' : List (Int × Nat)} {m m' : Loc} {H : Hp} {p : Nat}
theorem VS.mb (x : VS X p L F m H) : m "block" = some (.ref X.bq) := x.loc ("block", .ref X.bq) (.head _)
theorem VS.mw (x : VS X p L F m H) : m "where" = some (.ref X.wq) := x.loc ("where", .ref X.wq) (.tail _ (.head _))
theorem VS.mf (x : VS X p L F m H) : m "found" = some (.ref X.fq) := x.loc ("found", .ref X.fq) (.tail _ (.tail _ (.head _)))
theorem VS.ml (x : VS X p L F m H) : m "left" = some (.ref X.lq) := x.loc ("left", .ref X.lq) (.tail _ (.tail _ (.tail _ (.head _))))
theorem VS.mc (x : VS X p L F m H) : m "many" = some (.int X.many) := x.loc ("many", .int X.many) (.tail _ (.tail _ (.tail _ (.tail _ (.head _)))))
theorem VS.mi (x : VS X p L F m H) : m "wide" = some (.int X.wide) := x.loc ("wide", .int X.wide) (.tail _ (.tail _ (.tail _ (.tail _ (.tail _ (.head _))))))
theorem VS.mkey (x : VS X p L F m H) : m "key" = some X.key.enc := x.loc ("key", X.key.enc) (.tail _ (.tail _ (.tail _ (.tail _ (.tail _ (.tail _ (.head _)))))))
theorem VS.left (x : VS X p L F m H) (L' : List Nat) : VS X p L' F m (H.set X.lq (.list (nats L'))) :=
  ⟨x.loc, x.ma, (List.getElem?_set_ne (Ne.symm x.ne.2.2.1)).trans x.hb, let ⟨D, hD, kD⟩ := x.hw; ⟨D, (List.getElem?_set_ne (Ne.symm x.ne.2.2.2.2)).trans hD, kD⟩, (List.getElem?_set_ne (Ne.symm x.ne.1)).trans x.hf, get_set x.hl, x.ne, x.ext.trans (.set (.tail _ (.head _)))⟩
theorem VS.find (x : VS X p L F m H) (F' : List (Int × Nat)) : VS X p L F' m (H.set X.fq (.list (F'.map encF))) :=
  ⟨x.loc, x.ma, (List.getElem?_set_ne (Ne.symm x.ne.2.1)).trans x.hb, let ⟨D, hD, kD⟩ := x.hw; ⟨D, (List.getElem?_set_ne (Ne.symm x.ne.2.2.2.1)).trans hD, kD⟩, get_set x.hf, (List.getElem?_set_ne x.ne.1).trans x.hl, x.ne, x.ext.trans (.set (.head _))⟩
theorem VS.keepLoc {y : String} {v : V} (h : y ∉ ["block", "where", "found", "left", "many", "wide", "key"]) (x : ∀ p ∈ vloc X, m p.1 = some p.2) : ∀ p ∈ vloc X, upd m y v p.1 = some p.2 :=
  have k : ∀ p ∈ vloc X, p.1 ∈ ["block", "where", "found", "left", "many", "wide", "key"] := fun _ hp => List.mem_map_of_mem (f := Prod.fst) hp
  fun p hp => (upd_ne (fun (e : p.1 = y) => h (e ▸ k p hp))).trans (x p hp)
theorem VS.upd (x : VS X p L F m H) {y : String} {v : V} (h : y ∉ ["block", "where", "found", "left", "many", "wide", "key"]) (ha : "at" ≠ y) : VS X p L F (upd m y v) H :=
  ⟨VS.keepLoc h x.loc, (upd_ne ha).trans x.ma, x.hb, x.hw, x.hf, x.hl, x.ne, x.ext⟩
theorem VS.go (x : VS X p L F m H) (q : Nat) : VS X q L F (Mine.upd m "at" (.int q)) H := ⟨VS.keepLoc (by decide) x.loc, upd_self, x.hb, x.hw, x.hf, x.hl, x.ne, x.ext⟩
theorem VS.grow (x : VS X p L F m H) (r : Hp) : VS X p L F m (H ++ r) :=
  have e : Ext H (H ++ r) := .app
  ⟨x.loc, x.ma, e.get x.hb, let ⟨D, hD, kD⟩ := x.hw; ⟨D, e.get hD, kD⟩, e.get x.hf, e.get x.hl, x.ne, x.ext.trans (Ext.any e)⟩
/-- the end of a turn that found nothing to go on with -/
noncomputable def VE (X : VX) (L : List Nat) (F : List (Int × Nat)) (z : Fl × Loc × Hp) : Prop :=
  (L = [] ∧ z.1 = Fl.ret (.ref X.fq) ∧ ∃ p, VS X p L F z.2.1 z.2.2) ∨ (∃ L0 q, L = L0 ++ [q] ∧ z.1 = Fl.next ∧ VS X q L F z.2.1 z.2.2)
/-- a target as a place -/
noncomputable def goalAt (l : Int) (B : List Row) (q : Option Nat) : Prop := (l = -1 ∧ q = none) ∨ (0 ≤ l ∧ ∃ p : Nat, B[p]? = some (.lab l) ∧ q = some p)
noncomputable def VZ (X : VX) (q : Option Nat) (L : List Nat) (F : List (Int × Nat)) (z : Fl × Loc × Hp) : Prop :=
  match q with
  | none => VE X L F z
  | some p => z.1 = Fl.cont ∧ VS X p L F z.2.1 z.2.2
theorem nats_last (L : List Nat) (q : Nat) {r : Nat} (h : H[r]? = some (.list (nats (L ++ [q])))) : getI H (.ref r) (.int (-1)) = some (.int q) := by
  have hl : (nats (L ++ [q])).length = L.length + 1 := by rw [nats_len, List.length_append]; rfl
  have e : ((-1 : Int) + ((L.length + 1 : Nat) : Int)).toNat = L.length := by omega
  rw [h_get h]
  show idx (nats (L ++ [q])) (-1) = _
  unfold idx
  rw [if_neg (by decide), hl, if_pos (by omega), e, nats_snoc, ← nats_len L, List.getElem?_concat_length]
theorem t_nil {r : Nat} {vs : List V} (hm : m "left" = some (.ref r)) (h : H[r]? = some (.list vs)) (hf : flatsN 8 vs = true) : T.nil false (E.var "left") m H = some (vs.isEmpty, H) := by
  unfold T.nil
  rw [e_var hm]
  show ((V.ref r).asL H).bind _ = _
  rw [V.asL_ref h]
  show (if flatsN 8 vs = true then some (vs.isEmpty != false, H) else Option.none) = _
  rw [if_pos hf, Bool.bne_false]
noncomputable def tailS : Sx := S.seq (S.iff (T.nil false (E.var "left")) (S.seq (S.ret (E.var "found")) (S.nil)) (S.nil)) (S.seq (S.asg "at" (E.item (E.var "left") (E.neg (E.const (.int 1))))) (S.nil))
theorem vis_end (x : VS X p L F m H) : Run (tailS m H) (VE X L F) := by
  have ht := t_nil x.ml x.hl (nats_flat L)
  rcases List.eq_nil_or_concat L with rfl | ⟨L0, q, rfl⟩
  · exact ⟨_, s_iffT ht (s_assoc.trans (s_ret (e_var x.mf))), .inl ⟨rfl, rfl, p, x⟩⟩
  · rw [List.concat_eq_append] at *
    have he : (nats (L0 ++ [q])).isEmpty = false := by rw [nats_snoc]; cases nats L0 <;> rfl
    exact ⟨_, s_skip (ht.trans (by rw [he])) (s_asg (e_item (e_var x.ml) rfl (nats_last L0 q x.hl)) rfl), .inr ⟨L0, q, rfl, rfl, x.go q⟩⟩
noncomputable def goS : Sx := S.seq (S.asg "goal" (E.call P.law_target [E.var "ins", E.var "key"])) (S.seq (S.iff (T.cmp .GtE (E.var "goal") (E.const (.int 0))) (S.seq (S.iff (T.cmp .NotIn (E.var "goal") (E.var "where")) (S.seq (S.ret (E.const .none)) (S.nil)) (S.nil)) (S.seq (S.asg "at" (E.item (E.var "where") (E.var "goal"))) (S.seq (S.cont) (S.nil)))) (S.nil)) (S.nil))
/-- on to the target, or back -/
theorem go_ok {q : Option Nat} {row : Row} {r' : Hp} (x : VS X p L F m H) (mi : m "ins" = some row.enc) (ht : P.law_target [row.enc, X.key.enc] H = some (.int (sel X.key row), H ++ r')) (hq : goalAt (sel X.key row) X.B q) :
    Run (S.seq goS (S.seq S.nil tailS) m H) (VZ X q L F) := by
  have y := (x.grow r').upd (y := "goal") (v := .int (sel X.key row)) (by decide) (by decide)
  refine Run.of (s_assoc.trans (s_asg (e_call2 (e_var mi) (e_var x.mkey) ht) rfl)) ?_
  have hg : upd m "goal" (.int (sel X.key row)) "goal" = some (.int (sel X.key row)) := upd_self
  generalize upd m "goal" (.int (sel X.key row)) = m1 at *
  generalize H ++ r' = A at *
  have tg := t_ge (b := E.const (.int 0)) (e_var (H := A) hg) rfl
  rcases hq with ⟨e, rfl⟩ | ⟨h0, pp, hp, rfl⟩
  · rw [e] at tg
    exact Run.of (s_assoc.trans (s_skip tg rfl)) (vis_end y)
  · obtain ⟨D, hD, kD⟩ := y.hw
    have gin : cmpV .NotIn A (.int (sel X.key row)) (.ref X.wq) = some false := by
      show (inV _ _ _).map _ = _
      rw [h_in hD]
      show Option.map _ (Option.map _ _) = _
      rw [kD.hit hp]; rfl
    exact ⟨_, s_assoc.trans (s_iffT (tg.trans (by rw [decide_eq_true h0])) (s_assoc.trans (s_skip (t_cmp (e_var hg) (e_var y.mw) gin) (s_assoc.trans (s_asg (e_itemvv y.mw hg (e_where hD kD hp)) rfl))))), rfl, y.go pp⟩
/-- what a row does -/
inductive VStep (X : VX) (p : Nat) : List Nat → List (Int × Nat) → Row → Option Nat → List Nat → List (Int × Nat) → Prop
  | clause {L : List Nat} {F : List (Int × Nat)} {l : Int} : 0 ≤ l → l < X.many → VStep X p L F (.lab l) none L (F ++ [(l, L.length)])
  | lab {L : List Nat} {F : List (Int × Nat)} {l : Int} : X.many ≤ l → VStep X p L F (.lab l) (some (p + 1)) L F
  | try_ {L : List Nat} {F : List (Int × Nat)} {l : Int} {q : Option Nat} : goalAt l X.B q → VStep X p L F (.try_ l X.wide) q (L ++ [p + 1]) F
  | retry {L : List Nat} {F : List (Int × Nat)} {l : Int} {p0 : Nat} {q : Option Nat} : goalAt l X.B q → VStep X p (L ++ [p0]) F (.retry l) q (L ++ [p + 1]) F
  | trust {L : List Nat} {F : List (Int × Nat)} {l : Int} {p0 : Nat} {q : Option Nat} : goalAt l X.B q → VStep X p (L ++ [p0]) F (.trust l) q L F
  | jump {L : List Nat} {F : List (Int × Nat)} {row : Row} {q : Option Nat} : (∃ v c li s, row = .swt v c li s) ∨ (∃ k ps d, row = .sw k ps d ∧ okTab X.key k ps) → goalAt (sel X.key row) X.B q → VStep X p L F row q L F
theorem put_last {q : Nat} (h : H[X.lq]? = some (.list (nats (L ++ [q])))) (v : Nat) : putI H (.ref X.lq) (.int (-1)) (.int v) = some (H.set X.lq (.list (nats (L ++ [v])))) := by
  have hl : (nats (L ++ [q])).length = L.length + 1 := by rw [nats_len, List.length_append]; rfl
  have e : ((-1 : Int) + ((L.length + 1 : Nat) : Int)).toNat = L.length := by omega
  show (H[X.lq]?.bind (putO _ _)).map _ = _
  rw [h]
  show (((pos? (-1) _).map _).map _) = _
  unfold pos?
  rw [if_neg (by omega), if_pos (by omega), hl, e]
  show some (H.set X.lq (.list ((nats (L ++ [q])).set L.length (.int v)))) = _
  rw [nats_snoc, nats_snoc, ← nats_len L, List.set_append_right _ _ (Nat.le_refl _), Nat.sub_self]
  rfl
theorem visit_step {q : Option Nat} {row : Row} (x : VS X p L F m H) (hr : X.B[p]? = some row) (hL : L.length < 50000) (hF : F.length < 50000) (hm : 0 ≤ X.many) (hs : VStep X p L F row q L' F') : Run (P.law_visits_turn m H) (VZ X q L' F') := by
  refine Run.of (s_asg (e_itemvv x.mb x.ma (block_get x.hb hr)) rfl) ?_
  have y1 := x.upd (y := "ins") (v := row.enc) (by decide) (by decide)
  refine Run.of (s_asg (X := .int (-1)) (H1 := H) rfl rfl) ?_
  have y := y1.upd (y := "clause") (v := .int (-1)) (by decide) (by decide)
  have hi : upd (upd m "ins" row.enc) "clause" (.int (-1)) "ins" = some row.enc := rfl
  have hc : upd (upd m "ins" row.enc) "clause" (.int (-1)) "clause" = some (.int (-1)) := rfl
  clear y1 x
  generalize upd (upd m "ins" row.enc) "clause" (.int (-1)) = m1 at *
  have nm : ∀ (s : String) (m2 : Loc), m2 "ins" = some row.enc → T.cmp .Eq (E.item (E.var "ins") (E.const (.int 0))) (E.const (.str s)) m2 H = some (decide (row.word = s), H) := fun s m2 h => t_eqs (e_itemv h (Row.get0 H row))
  have g1 : ∀ l, row.two = some l → E.item (E.var "ins") (E.const (.int 1)) m1 H = some (.int l, H) := fun l h => e_itemv hi (Row.get1 h)
  have ch : ∀ (m2 : Loc) (l : Int), m2 "clause" = some (.int l) → m2 "many" = some (.int X.many) → T.chain .LtE .Lt (E.const (.int 0)) (E.var "clause") (E.var "many") m2 H = some (decide (0 ≤ l) && decide (l < X.many), H) := fun m2 l h1 h2 => by
    unfold T.chain E.const
    simp only [e_var h1, e_var h2, Option.bind_some]
    show (if decide ((0 : Int) ≤ l) = true then some (decide (l < X.many), H) else some (false, H)) = _
    cases decide (0 ≤ l) <;> rfl
  have ep : ∀ m2 : Loc, m2 "at" = some (.int p) → E.bin .Add (E.var "at") (E.const (.int 1)) m2 H = some (.int ((p + 1 : Nat) : Int), H) := fun m2 h => (e_add (i2 := 1) (e_var h) rfl).trans (by rw [Int.natCast_add]; rfl)
  have lab : ∀ {l : Int}, row = .lab l → ∀ {R : Sx} {P}, Run (R (upd m1 "clause" (.int l)) H) P → Run (S.seq (S.iff (T.cmp .Eq (E.item (E.var "ins") (E.const (.int 0))) (E.const (.str "label"))) (S.seq (S.asg "clause" (E.item (E.var "ins") (E.const (.int 1)))) (S.nil)) (S.nil)) R m1 H) P :=
    fun {l} e R P h => Run.of (s_iffT ((nm _ _ hi).trans (by rw [e]; rfl)) (s_assoc.trans (s_asg (g1 l (by rw [e]; rfl)) rfl))) h
  -- what is no label
  have rest : row.word ≠ "label" → ∀ {H2 : Hp} {r' : Hp}, VS X p L' F' m1 H2 → goalAt (sel X.key row) X.B q → P.law_target [row.enc, X.key.enc] H2 = some (.int (sel X.key row), H2 ++ r') →
      ∀ {MV : Sx}, MV m1 H = some (.next, m1, H2) → ∀ {C1 C2 A1 A2 : Sx}, Run (S.seq (S.iff (T.cmp .Eq (E.item (E.var "ins") (E.const (.int 0))) (E.const (.str "label"))) C1 (S.nil)) (S.seq (S.iff (T.chain .LtE .Lt (E.const (.int 0)) (E.var "clause") (E.var "many")) C2 (S.seq (S.iff (T.cmp .Eq (E.item (E.var "ins") (E.const (.int 0))) (E.const (.str "label"))) A1 (S.seq MV goS)) S.nil)) tailS) m1 H) (VZ X q L' F') := by
    intro hw H2 r' z hq ht MV hmv C1 C2 A1 A2
    have no := (nm "label" m1 hi).trans (by rw [decide_eq_false hw])
    refine Run.of (s_skip no rfl) (Run.of (s_iffF (ch m1 (-1) hc y.mc) (s_assoc.trans (s_iffF no (s_assoc.trans (s_one hmv rfl))))) ?_)
    exact go_ok z hi ht hq
  have one : ∀ {l : Int} (H2 : Hp), row.two = some l → l = sel X.key row → row.word ≠ "switch_on_term" → row.word ∉ ["switch_on_constant", "switch_on_structure"] → P.law_target [row.enc, X.key.enc] H2 = some (.int (sel X.key row), H2 ++ []) := fun H2 a b c d => (law_target_one a b c d H2).trans (by rw [List.append_nil])
  cases hs with
  | @clause _ _ l h0 h1 =>
    refine lab rfl (Run.of (s_iffT ((ch _ l upd_self ((upd_ne (by decide)).trans y.mc)).trans (by rw [decide_eq_true h0, decide_eq_true h1]; rfl)) (s_assoc.trans (s_expr (e_app (X := encF (l, L.length)) (e_var ((upd_ne (by decide)).trans y.mf)) y.hf ?_ y.hf (lt_big (by rw [List.length_map]; omega))) (s_assoc.trans (s_asg (X := .int (-1)) rfl rfl))))) ?_)
    · have hlen : E.len (E.var "left") (upd m1 "clause" (.int l)) H = some (.int L.length, H) := (e_len (e_var ((upd_ne (by decide)).trans y.ml)) y.hl).trans (by rw [nats_len])
      show E.tup [E.var "clause", E.len (E.var "left")] _ _ = _
      simp only [E.tup, E.evs, e_var (m := upd m1 "clause" (.int l)) (H := H) upd_self, hlen, Option.bind_some, Option.map_some]
      rfl
    · have z := (y.find (F ++ [(l, L.length)]))
      rw [List.map_append] at z
      exact vis_end ((z.upd (y := "clause") (v := .int l) (by decide) (by decide)).upd (y := "goal") (v := .int (-1)) (by decide) (by decide))
  | @lab _ _ l h1 =>
    refine lab rfl (Run.of (s_iffF ((ch _ l upd_self ((upd_ne (by decide)).trans y.mc)).trans (by rw [decide_eq_false (Int.not_lt.mpr h1), Bool.and_false])) (s_assoc.trans (s_iffT ((nm _ _ ((upd_ne (by decide)).trans hi)).trans rfl) rfl))) ?_)
    have hat : upd m1 "clause" (.int l) "at" = some (.int p) := (upd_ne (by decide)).trans y.ma
    have z := (y.upd (y := "clause") (v := .int l) (by decide) (by decide)).go (p + 1)
    refine ⟨(.cont, upd (upd m1 "clause" (.int l)) "at" (.int ((p + 1 : Nat) : Int)), H), ?_, rfl, z⟩
    have hinc : S.inc "at" (E.const (.int 1)) (upd m1 "clause" (.int l)) H = some (.next, upd (upd m1 "clause" (.int l)) "at" (.int ((p + 1 : Nat) : Int)), H) := by
      unfold S.inc E.const; rw [hat, Option.bind_some]; simp only [Option.bind_some]; rw [Int.natCast_add]; rfl
    exact s_assoc.trans (s_one hinc rfl)
  | @try_ _ _ l q h =>
    refine rest (show "try" ≠ "label" by decide) (y.left (L ++ [p + 1])) h (one _ rfl rfl (show "try" ≠ "switch_on_term" by decide) (show "try" ∉ ["switch_on_constant", "switch_on_structure"] by decide)) ?_ (A2 := S.nil)
    have hwd : T.cmp .NotEq (E.item (E.var "ins") (E.const (.int 2))) (E.var "wide") m1 H = some (false, H) := t_cmp (e_itemv (Z := .int X.wide) hi (tup_get (n := 2) (by decide) rfl)) (e_var y.mi) (by simp only [cmpV, eqV_int, decide_true]; rfl)
    have ap := e_app (e_var y.ml) y.hl (ep m1 y.ma) y.hl (lt_big (by rw [nats_len]; omega))
    rw [← nats_snoc] at ap
    unfold S.iff
    rw [nm "try" m1 hi]
    exact s_skip hwd (s_expr ap rfl)
  | @retry L0 _ l p0 q h =>
    refine rest (show "retry" ≠ "label" by decide) (y.left (L0 ++ [p + 1])) h (one _ rfl rfl (show "retry" ≠ "switch_on_term" by decide) (show "retry" ∉ ["switch_on_constant", "switch_on_structure"] by decide)) ?_ (A2 := S.nil)
    have hput : S.asgItem (E.var "left") (E.neg (E.const (.int 1))) (E.bin .Add (E.var "at") (E.const (.int 1))) m1 H = some (.next, m1, H.set X.lq (.list (nats (L0 ++ [p + 1])))) := by
      unfold S.asgItem
      rw [ep m1 y.ma, Option.bind_some, e_var y.ml, Option.bind_some]
      show ((putI H (.ref X.lq) (.int (-1)) (.int ((p + 1 : Nat) : Int))).map _) = _
      rw [put_last y.hl]; rfl
    unfold S.iff
    rw [nm "try" m1 hi]
    exact s_iffT (nm "retry" m1 hi) (s_one (s_one hput rfl) rfl)
  | @trust _ _ l p0 q h =>
    refine rest (show "trust" ≠ "label" by decide) (y.left L') h (one _ rfl rfl (show "trust" ≠ "switch_on_term" by decide) (show "trust" ∉ ["switch_on_constant", "switch_on_structure"] by decide)) ?_ (A2 := S.nil)
    have hl := y.hl
    rw [nats_snoc] at hl
    unfold S.iff
    rw [nm "try" m1 hi]
    refine s_iffF (nm "retry" m1 hi) (s_assoc.trans (s_iffT (nm "trust" m1 hi) (s_assoc.trans (s_expr (e_pop (e_var y.ml) hl) rfl))))
  | jump hk h =>
    have hw : row.word ∈ ["switch_on_term", "switch_on_constant", "switch_on_structure"] := by
      rcases hk with ⟨v, c, li, s, rfl⟩ | ⟨k, ps, d, rfl, _⟩
      · exact .head _
      · simp only [Row.word]; split
        · exact .tail _ (.head _)
        · exact .tail _ (.tail _ (.head _))
    have nw : ∀ s, s ∉ ["switch_on_term", "switch_on_constant", "switch_on_structure"] → row.word ≠ s := fun s a e => a (e ▸ hw)
    have ht : ∃ r', P.law_target [row.enc, X.key.enc] H = some (.int (sel X.key row), H ++ r') := by
      rcases hk with ⟨v, c, li, s, rfl⟩ | ⟨k, ps, d, rfl, hok⟩
      · exact ⟨_, law_target_term v c li s X.key H⟩
      · exact ⟨[], (law_target_tab hok H).trans (by rw [List.append_nil])⟩
    obtain ⟨r', ht⟩ := ht
    refine rest (nw _ (by decide)) y h ht ?_ (A2 := S.nil)
    have hin : T.cmp .NotIn (E.item (E.var "ins") (E.const (.int 0))) (E.tup [E.const (.str "switch_on_term"), E.const (.str "switch_on_constant"), E.const (.str "switch_on_structure")]) m1 H = some (false, H) := by
      have := t_inF (b := E.tup [E.const (.str "switch_on_term"), E.const (.str "switch_on_constant"), E.const (.str "switch_on_structure")]) (e_itemv hi (Row.get0 H row)) rfl (inV_strs (H := H) (ss := ["switch_on_term", "switch_on_constant", "switch_on_structure"]))
      rw [decide_eq_true hw] at this
      exact this
    unfold S.iff
    rw [nm "try" m1 hi, decide_eq_false (nw _ (by decide))]
    exact s_iffF ((nm "retry" m1 hi).trans (by rw [decide_eq_false (nw _ (by decide))])) (s_assoc.trans (s_iffF ((nm "trust" m1 hi).trans (by rw [decide_eq_false (nw _ (by decide))])) (s_assoc.trans (s_skip hin rfl))))
end
noncomputable def vturns (vs : List V) : Sx := S.turns S.yes (S.b1 "turn") P.law_visits_turn vs
/-- where the walk stands -/
noncomputable def VK (X : VX) (Post : Fl × Loc × Hp → Prop) (q : Option Nat) (L : List Nat) (F : List (Int × Nat)) (vs : List V) : Prop :=
  match q with
  | some p => ∀ m H, VS X p L F m H → Run (vturns vs m H) Post
  | none => (L = [] → ∀ m H p, VS X p L F m H → Post (.ret (.ref X.fq), m, H)) ∧ ∀ L0 p, L = L0 ++ [p] → ∀ m H, VS X p L F m H → Run (vturns vs m H) Post
section
variable {X : VX} {Post : Fl × Loc × Hp → Prop} {p : Nat} {q : Option Nat} {L L' : List Nat} {F F' : List (Int × Nat)} {vs : List V} {cc : Nat}
theorem turn_eq {v : V} {m m2 : Loc} {H H2 : Hp} {fl : Fl} (e : P.law_visits_turn (upd m "turn" v) H = some (fl, m2, H2)) : vturns (v :: vs) m H = match (generalizing := false) fl with
    | .ret v => some (.ret v, m2, H2)
    | _ => vturns vs m2 H2 := by
  show (P.law_visits_turn (upd m "turn" v) H).bind _ = _
  rw [e]; rfl
theorem turn_go (h : ∀ m H, VS X p L F m H → Run (P.law_visits_turn m H) (VZ X q L' F')) (k : VK X Post q L' F' vs) (v : V) (m : Loc) (H : Hp) (x : VS X p L F m H) : Run (vturns (v :: vs) m H) Post := by
  obtain ⟨⟨fl, m2, H2⟩, e2, h2⟩ := h _ _ (x.upd (y := "turn") (v := v) (by decide) (by decide))
  cases q with
  | none =>
    rcases h2 with ⟨rfl, rfl, p', h2⟩ | ⟨L0, p', rfl, rfl, h2⟩
    · exact ⟨_, turn_eq e2, k.1 rfl m2 H2 p' h2⟩
    · exact .of (turn_eq e2) (k.2 L0 p' rfl m2 H2 h2)
  | some pp =>
    obtain ⟨rfl, h2⟩ := h2
    exact .of (turn_eq e2) (k m2 H2 h2)
/-- one row -/
theorem VK.turn {b : Bool} {row : Row} (hr : X.B[p]? = some row) (hL : L.length < 49000) (hF : F.length < 50000) (hm : 0 ≤ X.many) (hs : VStep X p (L ++ cond b [] [p]) F row q L' F') (k : VK X Post q L' F' vs) (v : V) : VK X Post (cond b (some p) none) (L ++ cond b [] [p]) F (v :: vs) := by
  have t := turn_go (fun m H x => visit_step x hr (by rw [List.length_append]; exact Nat.lt_of_le_of_lt (Nat.add_le_add_left (show (cond b [] [p]).length ≤ 1 by cases b; exact Nat.le_refl _; exact Nat.zero_le _) _) (Nat.lt_trans (Nat.succ_lt_succ hL) (by decide))) hF hm hs) k v
  cases b with
  | true => exact t
  | false => exact ⟨fun e => absurd e (by cases L <;> exact List.cons_ne_nil _ _), fun L0 p' e => by
      obtain ⟨rfl, e2⟩ := List.append_inj' e rfl
      cases e2
      exact t⟩
noncomputable def VQ (X : VX) (q : Option Nat) (T : List Nat) (o : List Int) (n : Nat) : Prop :=
  ∀ (L : List Nat) (F : List (Int × Nat)) (vs : List V) (Post : Fl × Loc × Hp → Prop), L.length + F.length + 2 * n < 40000 → n ≤ vs.length →
    (∀ F' vs', F'.map Prod.fst = F.map Prod.fst ++ o → vs.length ≤ vs'.length + n → VK X Post none L F' vs') → VK X Post q (L ++ T) F vs
noncomputable def VW (X : VX) (b : Bool) (s : List Row) (o : List Int) (n : Nat) : Prop := o.length ≤ n ∧ 1 ≤ n ∧ ∀ p : Nat, X.B.drop p = s → VQ X (cond b (some p) none) (cond b [] [p]) o n
noncomputable def VJ (X : VX) (l : Int) (o : List Int) (n : Nat) : Prop := o.length ≤ n ∧ ∃ q, goalAt l X.B q ∧ VQ X q [] o n
theorem ar_lt2 {L F n : Nat} (hB : L + F + 2 * n < 40000) : L < 49000 ∧ F < 50000 := ⟨by omega, by omega⟩
theorem len_of {o : List Int} (h : F'.map Prod.fst = F.map Prod.fst ++ o) : F'.length = F.length + o.length := by
  have := congrArg List.length h
  rw [List.length_append, List.length_map, List.length_map] at this
  exact this
theorem uncons {n : Nat} (h : vs.length = n + 1) : ∃ v vs', vs = v :: vs' ∧ vs'.length = n := by
  cases vs with
  | nil => cases h
  | cons v vs => exact ⟨v, vs, rfl, Nat.succ.inj h⟩
theorem VW.step {b : Bool} {row : Row} {r : List Row} {o : List Int} {n1 n : Nat} (hm : 0 ≤ X.many) (hn : n1 + 1 ≤ n) (ho : o.length ≤ n1) (h : ∀ p : Nat, X.B.drop (p + 1) = r → ∃ q, VQ X q [] o n1 ∧ ∀ L F, VStep X p (L ++ cond b [] [p]) F row q (L ++ []) F) : VW X b (row :: r) o n :=
  ⟨Nat.le_trans ho (Nat.le_of_succ_le hn), Nat.le_trans (Nat.succ_le_succ (Nat.zero_le _)) hn, fun p hp L F vs Post hB hN k => by
    obtain ⟨q, tq, st⟩ := h p (row_at hp).2
    obtain ⟨N', e, b1, b2, b3⟩ := ar_one hn hB hN
    obtain ⟨v, vs, rfl, rfl⟩ := uncons e
    have lt := ar_lt2 hB
    exact VK.turn (row_at hp).1 lt.1 lt.2 hm (st L F) (tq L F vs Post b1 b2 fun F' vs' h1 h2 => k F' vs' h1 (b3 _ h2)) v⟩
theorem VStep.alt {b : Bool} {l : Int} (h : goalAt l X.B q) : VStep X p (L ++ cond b [] [p]) F (altRow X.wide b l) q (L ++ [p + 1] ++ []) F := by
  rw [List.append_nil]
  cases b with
  | true => exact (List.append_nil L).symm ▸ VStep.try_ h
  | false => exact .retry h
theorem W_visits (hc : 1 ≤ cc) (hm : 0 ≤ X.many) : (∀ {b : Bool} {s : List Row} {o : List Int} {n : Nat}, W X.B X.many X.wide X.key cc b s o n → VW X b s o n) ∧ ∀ {l : Int} {o : List Int} {n : Nat}, J X.B X.many X.wide X.key cc l o n → VJ X l o n := by
  refine W_ind hc (P := VW X) (Q := VJ X) (fun {l r n} h0 hl hn => ⟨hn, hn, fun p hp L F vs Post hB hN k => ?_⟩) (fun hl i hn => .step hm hn i.1 fun p hp => ⟨some (p + 1), i.2.2 (p + 1) hp, fun L F => .lab hl⟩) (fun {b l r o1 o2 n1 n2 n} i1 i2 h => ⟨?_, ?_, fun p hp L F vs Post hB hN k => ?_⟩)
    (fun i hn => .step hm hn i.1 fun p _ => let ⟨q, hq, tq⟩ := i.2; ⟨q, tq, fun L F => (List.append_nil L).symm ▸ .trust hq⟩) (fun hr i hn => .step hm hn i.1 fun p _ => let ⟨q, hq, tq⟩ := i.2; ⟨q, tq, fun L F => .jump hr hq⟩)
    ⟨Nat.zero_le _, none, .inl ⟨rfl, rfl⟩, fun L F vs Post _ _ k => by rw [List.append_nil]; exact k F vs (List.append_nil _).symm (Nat.le_add_right _ _)⟩ fun {l pre r o n} h0 hB i => ⟨i.1, some pre.length, .inr ⟨h0, pre.length, (row_at (drop_pre hB)).1, rfl⟩, i.2.2 _ (drop_pre hB)⟩
  · obtain ⟨N', e, _, _, b3⟩ := ar_one (n1 := 0) hn hB hN
    obtain ⟨v, vs, rfl, rfl⟩ := uncons e
    have lt := ar_lt2 hB
    have kk := k (F ++ [(l, L.length)]) vs List.map_append (b3 _ (Nat.le_refl _))
    refine VK.turn (b := true) (row_at hp).1 lt.1 lt.2 hm ?_ kk v
    show VStep X p (L ++ []) F _ _ _ _
    rw [List.append_nil]
    exact .clause h0 hl
  · rw [List.length_append]; exact Nat.le_trans (Nat.add_le_add (Nat.le_succ_of_le i1.1) i2.1) h
  · exact Nat.le_trans (Nat.le_trans i2.2.1 (Nat.le_add_left _ _)) h
  · obtain ⟨N', e, b1, b2, b3, b4⟩ := ar_alt h hB hN i1.1
    obtain ⟨v, vs, rfl, rfl⟩ := uncons e
    have lt := ar_lt2 hB
    obtain ⟨l1, q, hq, tq⟩ := i1
    refine VK.turn (row_at hp).1 lt.1 lt.2 hm (.alt hq) (tq (L ++ [p + 1]) F vs Post (by rw [List.length_append]; exact b1) b2 fun F' vs' h1 h2 => ?_) v
    obtain ⟨c1, c2⟩ := b4 _ h2
    exact i2.2.2 (p + 1) (row_at hp).2 L F' vs' Post (by rw [len_of h1]; exact b3) c1 fun F2 vs2 h3 h4 => k F2 vs2 (by rw [h3, h1, List.append_assoc]) (c2 _ h4)
end
structure NewV (H : Hp) (o : List Int) (q : Nat) (H2 : Hp) : Prop where
  ext : Ext H H2
  list : ∃ F : List (Int × Nat), F.map Prod.fst = o ∧ H2[q]? = some (.list (F.map encF))
  new : H.length ≤ q
section
variable {B : List Row} {many wide : Int} {key : Key} {cc : Nat} {bq : Nat} {H : Hp}
theorem law_visits_ok {o : List Int} {n : Nat} (hw : W B many wide key cc true B o n) (hc : 1 ≤ cc) (hn : n ≤ 200) (hu : Uniq B) (hz : B.length < 50000) (h2 : 0 ≤ many) (hb : H[bq]? = some (.list (B.map Row.enc))) :
    RunR (P.law_visits [.ref bq, .int many, .int wide, key.enc] H) (NewV H o) := by
  have e1 : Ext H (H ++ [.dict .emp]) := .push
  refine RunR_fn rfl (.of (s_asg (X := .ref H.length) (H1 := H ++ [.dict .emp]) rfl rfl) (Run.forI (l := B) (PI (upd (args ["block", "many", "wide", "key"] [.ref bq, .int many, .int wide, key.enc]) "where" (.ref H.length)) H.length H) (Nat.lt_trans hz (by decide)) ((e_len (e_var rfl) (e1.get hb)).trans (by rw [List.length_map])) ⟨fun _ _ => rfl, ⟨.emp, get_new, .nil⟩, e1.any⟩ (fun d a t m H' h i => ?_) fun m H5 i => ?_))
  · exact i.step rfl hb (Nat.ne_of_lt (lt_of hb)) h hu hz fun l D D' hD hg hD' hl g => s_skip (t_cmp (g H' rfl) (e_var (hl _ (by decide))) ((h_in hD).trans (by show Option.map _ _ = _; rw [hg]; rfl))) (s_one (s_item (e_var upd_self) (e_var (hl _ (by decide))) (g H' rfl) hD hD') rfl)
  · have hl := i.loc
    have k4 : Ext H H5 := i.ext.fresh (Nat.le_refl _)
    obtain ⟨D, k2, k3⟩ := i.tab
    clear i
    have l2 : (H5 ++ [O.list []]).length = H5.length + 1 := List.length_append
    have e2 : Ext H5 (H5 ++ [.list []]) := .push
    have e3 : Ext (H5 ++ [O.list []]) (H5 ++ [O.list []] ++ [.list []]) := .push
    refine .of (s_asg e_list0 (s_asg (X := .ref (H5.length + 1)) (H1 := H5 ++ [.list []] ++ [.list []]) (by rw [← l2]; rfl) (s_asg (X := .int 0) rfl rfl))) ?_
    obtain ⟨X, hX⟩ : ∃ X : VX, X = ⟨B, many, wide, key, bq, H.length, H5.length + 1, H5.length, H5⟩ := ⟨_, rfl⟩
    have hb5 := Ext.get k4 hb
    have hlb := lt_of hb5
    have hlw := lt_of k2
    have x : VS X 0 [] [] (upd (upd (upd m "left" (.ref H5.length)) "found" (.ref (H5.length + 1))) "at" (.int 0)) (H5 ++ [O.list []] ++ [O.list []]) := by
      subst hX
      refine ⟨?_, rfl, e3.get (e2.get hb5), ⟨D, e3.get (e2.get k2), k3⟩, by rw [← l2]; exact get_new, e3.get get_new, ⟨Nat.ne_of_gt (Nat.lt_succ_self _), Nat.ne_of_lt (Nat.lt_succ_of_lt hlb), Nat.ne_of_lt hlb, Nat.ne_of_lt (Nat.lt_succ_of_lt hlw), Nat.ne_of_lt hlw⟩, Ext.any (e2.trans e3)⟩
      rintro p (_ | ⟨_, _ | ⟨_, _ | ⟨_, _ | ⟨_, _ | ⟨_, _ | ⟨_, _ | ⟨_, h⟩⟩⟩⟩⟩⟩⟩) 
      · exact hl "block" (by decide)
      · exact hl "where" (by decide)
      · rfl
      · rfl
      · exact hl "many" (by decide)
      · exact hl "wide" (by decide)
      · exact hl "key" (by decide)
      · cases h
    have hX2 : X.B = B ∧ X.many = many ∧ X.wide = wide ∧ X.key = key ∧ X.fq = H5.length + 1 ∧ X.lq = H5.length ∧ X.H0 = H5 := by subst hX; exact ⟨rfl, rfl, rfl, rfl, rfl, rfl, rfl⟩
    clear hX hl
    obtain ⟨rfl, rfl, rfl, rfl, hf, hlq, h0⟩ := hX2
    have hgo := ((W_visits hc h2).1 hw).2.2 0 rfl [] [] (E.rangeVs 0 200) (fun z => z.1 = Fl.ret (.ref X.fq) ∧ ∃ F : List (Int × Nat), F.map Prod.fst = o ∧ ∃ p, VS X p [] F z.2.1 z.2.2) (show 0 + 0 + 2 * n < 40000 by omega) hn fun F' vs' e1 e2 => ⟨fun _ m H p h => ⟨rfl, F', e1, p, h⟩, fun L0 p e => absurd e (by cases L0 <;> exact (List.cons_ne_nil _ _).symm)⟩
    obtain ⟨⟨_, m6, H6⟩, e6, rfl, F, hF, p, y⟩ := hgo _ _ x
    have ef : S.forR1 (S.b1 "turn") (E.const (.int 200)) P.law_visits_turn (upd (upd (upd m "left" (.ref H5.length)) "found" (.ref (H5.length + 1))) "at" (.int 0)) (H5 ++ [O.list []] ++ [O.list []]) = some (.ret (.ref X.fq), m6, H6) := by
      unfold S.forR1 E.const
      simp only [Option.bind_some]
      rw [if_pos (sm_iff.mpr ⟨by decide, by decide⟩)]
      exact e6
    refine ⟨_, s_stop ef, X.fq, rfl, k4.trans ?_, ⟨F, hF, y.hf⟩, by rw [hf]; exact Nat.le_trans k4.2 (Nat.le_succ _)⟩
    have ye := y.ext
    rw [h0] at ye
    exact (ye.fresh (by rw [hf]; exact Nat.le_succ _)).fresh (Nat.le_of_eq hlq.symm)
end
theorem turnsC_ok {α : Type} {still : Hp → Bool} {bind : V → Loc → Option Loc} {test : Tx} {elt : Ex} {H : Hp} {enc : α → V} {p : α → Bool} {f : α → V} (Q : Loc → Prop) (hs : still H = true) (L : List α) : ∀ (h : ∀ a ∈ L, ∀ m, Q m → ∃ m1, bind (enc a) m = some m1 ∧ Q m1 ∧ test m1 H = some (p a, H) ∧ (p a = true → elt m1 H = some (f a, H))) (m : Loc) (hm : Q m), E.turnsC still bind test elt (L.map enc) m H = some ((L.filter p).map f, H) := by
  induction L with
  | nil => exact fun _ _ _ => if_pos hs
  | cons a L ih =>
    intro h m hm
    obtain ⟨m1, e1, q1, e2, e3⟩ := h a List.mem_cons_self m hm
    have i := ih (fun b hb => h b (List.mem_cons_of_mem _ hb)) m1 q1
    refine Eq.trans (if_pos hs) ?_
    rw [e1, Option.bind_some, e2, Option.bind_some]
    cases hp : p a with
    | true => rw [List.filter_cons_of_pos hp]; dsimp only; rw [e3 hp, Option.bind_some, i]; rfl
    | false => rw [List.filter_cons_of_neg (by rw [hp]; decide)]; exact i
theorem compR_eq {free : List String} {bind : V → Loc → Option Loc} {n : Ex} {test : Tx} {elt : Ex} {m : Loc} {H : Hp} {k : Nat} {Z : List V} (hn : n m H = some (.int k, H)) (hk : k < 100000) (ht : E.turnsC S.yes bind test elt (nats (List.range k)) (E.only free m) H = some (Z, H)) :
    E.compR free bind n test elt m H = some (.ref H.length, H ++ [.list Z]) := by
  unfold E.compR
  rw [hn, Option.bind_some]
  dsimp only
  rw [if_pos (nat_sm hk (by decide) (by decide)), rangeVs_nats, ht]
  rfl
theorem comp_eq {free : List String} {bind : V → Loc → Option Loc} {it : Ex} {test : Tx} {elt : Ex} {m : Loc} {H H1 : Hp} {q : Nat} {vs Z : List V} (hi : it m H = some (.ref q, H1)) (hq : H1[q]? = some (.list vs)) (hl : vs.length < 100000) (ht : E.turnsC (S.stillIs (.ref q) vs) bind test elt vs (E.only free m) H1 = some (Z, H1)) :
    E.comp free bind it test elt m H = some (.ref H1.length, H1 ++ [.list Z]) := by
  have h : S.items H1 (.ref q) = some vs := by unfold S.items; simp only [hq]
  unfold E.comp
  rw [hi, Option.bind_some]
  dsimp only
  rw [h, Option.bind_some, if_pos (Nat.le_of_lt (lt_big hl)), ht]
  rfl
section
variable {m : Loc} {H H1 : Hp} {t : Tx} {A B : Sx} {r : Option (Fl × Loc × Hp)}
theorem s_ifF (h : t m H = some (false, H1)) : S.iff t A S.nil m H = some (.next, m, H1) := by unfold S.iff; rw [h]; rfl
theorem s_ifT (h : t m H = some (true, H1)) (hA : A m H1 = r) : S.iff t A B m H = r := by unfold S.iff; rw [h]; exact hA
end
theorem keys_flat (L : List Key) : flatsN 8 (L.map Key.enc) = true := by
  induction L with
  | nil => rfl
  | cons k L ih =>
    simp only [List.map_cons, flatsN, ih, Key.enc_flat]; rfl
theorem mem_enc {k : Key} {L : List Key} : k.enc ∈ L.map Key.enc ↔ k ∈ L := ⟨fun h => let ⟨_, h1, h2⟩ := List.mem_map.mp h; Key.enc_inj h2 ▸ h1, List.mem_map_of_mem⟩
theorem inV_keys {H : Hp} {q : Nat} {L : List Key} (k : Key) (h : H[q]? = some (.list (L.map Key.enc))) : inV H k.enc (.ref q) = some (decide (k ∈ L)) := by
  rw [h_in h]
  show (if _ then some (dec _) else _) = _
  rw [if_pos ⟨Key.enc_flat k, keys_flat L⟩, ← dec_decide]
  exact congrArg some (dec_iff (dec_eq_true_iff.trans mem_enc))
/-- the clauses with their keys -/
theorem Codes.pairs {H : Hp} {c : Nat} {keys : List Key} (x : Codes H c keys) : ∃ G : List (Nat × Key), H[c]? = some (.list (G.map fun p => .ref p.1)) ∧ G.map (·.2) = keys ∧ ∀ p ∈ G, ∃ fs, H[p.1]? = some (.inst C_ClauseCode fs) ∧ fs.lookup "key" = some p.2.enc := by
  obtain ⟨refs, h1, h2, h3⟩ := x
  refine ⟨refs.zip keys, ?_, List.map_snd_zip (Nat.le_of_eq h2.symm), fun p hp => ?_⟩
  · have := congrArg (List.map V.ref) (List.map_fst_zip (Nat.le_of_eq h2))
    rw [List.map_map] at this
    rw [h1, ← this]
    rfl
  · obtain ⟨i, hi⟩ := List.mem_iff_getElem?.mp hp
    obtain ⟨a, b⟩ := List.getElem?_zip_eq_some.mp hi
    obtain ⟨r, e, ca⟩ := h3 i p.2 b
    obtain ⟨fs, q, f1, f2, f3, f4⟩ := ca.inst
    rw [a] at e
    exact Option.some.inj e ▸ ⟨fs, f1, f2⟩
/-- what sample_keys gives -/
noncomputable def SmpOk (dk sm : List Key) (g f : Int) : Prop := (∀ n, Key.co 5 n ∈ dk → n ≤ g) ∧ (∀ x, Key.st x ∈ dk → x ≤ f) ∧ ∀ key, key ∈ sm ↔ key = .var ∨ key = .list ∨ key ∈ dk
noncomputable def gmax (key : Key) (g : Int) : Int := match key with
  | .co c n => if c = 5 then (if g < n then n else g) else g
  | _ => g
noncomputable def fmax (key : Key) (f : Int) : Int := match key with
  | .st y => if f < y then y else f
  | _ => f
theorem gmax_ge (key : Key) (g : Int) : g ≤ gmax key g := by
  unfold gmax
  split
  · split
    · split
      · exact Int.le_of_lt ‹_›
      · exact Int.le_refl _
    · exact Int.le_refl _
  · exact Int.le_refl _
theorem fmax_ge (key : Key) (f : Int) : f ≤ fmax key f := by
  unfold fmax
  split
  · split
    · exact Int.le_of_lt ‹_›
    · exact Int.le_refl _
  · exact Int.le_refl _
theorem SmpOk.snoc {dk sm : List Key} {g f : Int} (x : SmpOk dk sm g f) (key : Key) : SmpOk (dk ++ [key]) (if key ∈ sm then sm else sm ++ [key]) (gmax key g) (fmax key f) := by
  have sn : ∀ {k : Key}, k ∈ dk ++ [key] ↔ k ∈ dk ∨ k = key := List.mem_append.trans (or_congr_right List.mem_singleton)
  refine ⟨fun n h => ?_, fun n h => ?_, fun k => ?_⟩
  · rcases sn.mp h with h | rfl
    · exact Int.le_trans (x.1 n h) (gmax_ge key g)
    · show n ≤ if g < n then n else g
      split
      · exact Int.le_refl _
      · exact Int.not_lt.mp ‹_›
  · rcases sn.mp h with h | rfl
    · exact Int.le_trans (x.2.1 n h) (fmax_ge key f)
    · show n ≤ if f < n then n else f
      split
      · exact Int.le_refl _
      · exact Int.not_lt.mp ‹_›
  · rw [sn, ← or_assoc, ← or_assoc, or_assoc (a := k = .var), ← x.2.2 k]
    split
    · exact ⟨.inl, fun h => h.elim id fun e => e ▸ ‹_›⟩
    · exact List.mem_append.trans (or_congr_right List.mem_singleton)
section
variable {m : Loc} {H : Hp} {key : Key} {g f : Int}
theorem key_word {w : String} (mk : m "key" = some key.enc) : T.cmp .Eq (E.item (E.var "key") (E.const (.int 0))) (E.const (.str w)) m H = some (decide (key.kind.word = w), H) := t_eqs (e_itemv mk (Key.get0 H key))
theorem greatest_ok (mk : m "key" = some key.enc) (mg : m "greatest" = some (.int g)) : ∃ m2, S.iff (T.and [T.cmp .Eq (E.item (E.var "key") (E.const (.int 0))) (E.const (.str "const")), T.cmp .Eq (E.item (E.item (E.var "key") (E.const (.int 1))) (E.const (.int 0))) (E.const (.int 5)), T.cmp .Gt (E.item (E.item (E.var "key") (E.const (.int 1))) (E.const (.int 1))) (E.var "greatest")]) (S.seq (S.asg "greatest" (E.item (E.item (E.var "key") (E.const (.int 1))) (E.const (.int 1)))) (S.nil)) (S.nil) m H = some (.next, m2, H) ∧ m2 "greatest" = some (.int (gmax key g)) ∧ ∀ z, z ∉ ["greatest"] → m2 z = m z := by
  have kw := key_word (H := H) (w := "const") mk
  have no : key.kind ≠ .co → _ := fun h => s_ifF (A := S.seq (S.asg "greatest" (E.item (E.item (E.var "key") (E.const (.int 1))) (E.const (.int 1)))) (S.nil)) (t_andF (ts := [T.cmp .Eq (E.item (E.item (E.var "key") (E.const (.int 1))) (E.const (.int 0))) (E.const (.int 5)), T.cmp .Gt (E.item (E.item (E.var "key") (E.const (.int 1))) (E.const (.int 1))) (E.var "greatest")]) (kw.trans (by rw [decide_eq_false (p := key.kind.word = "const") fun e => h (Kind.word_inj (b := .co) e)])))
  cases key with
  | co c n =>
    have i1 : E.item (E.var "key") (E.const (.int 1)) m H = some (.tup [.int c, .int n], H) := e_itemv mk (tup_get (n := 1) (by decide) rfl)
    have i2 : E.item (E.item (E.var "key") (E.const (.int 1))) (E.const (.int 1)) m H = some (.int n, H) := e_item0 i1 (tup_get (n := 1) (by decide) rfl)
    have t2 := t_eqi (j := 5) (e_item0 i1 (tup_get (n := 0) (by decide) rfl))
    have t3 := t_gt i2 (e_var mg)
    rw [show gmax (.co c n) g = if c = 5 then (if g < n then n else g) else g from rfl]
    by_cases h : c = 5
    · rw [if_pos h]
      rw [decide_eq_true h] at t2
      by_cases hg : g < n
      · rw [if_pos hg]
        rw [decide_eq_true hg] at t3
        exact ⟨_, s_ifT (t_andT kw (t_andT t2 (t_and1 t3))) (s_asg i2 rfl), upd_self, loc_upd (.head _) fun _ _ => rfl⟩
      · rw [if_neg hg]
        rw [decide_eq_false hg] at t3
        exact ⟨m, s_ifF (t_andT kw (t_andT t2 (t_and1 t3))), mg, fun _ _ => rfl⟩
    · rw [if_neg h]
      rw [decide_eq_false h] at t2
      exact ⟨m, s_ifF (t_andT kw (t_andF t2)), mg, fun _ _ => rfl⟩
  | var => exact ⟨m, no (fun h => nomatch h), mg, fun _ _ => rfl⟩
  | list => exact ⟨m, no (fun h => nomatch h), mg, fun _ _ => rfl⟩
  | st y => exact ⟨m, no (fun h => nomatch h), mg, fun _ _ => rfl⟩
theorem functor_max (mk : m "key" = some key.enc) (mf : m "functor" = some (.int f)) : ∃ m2, S.iff (T.and [T.cmp .Eq (E.item (E.var "key") (E.const (.int 0))) (E.const (.str "struct")), T.cmp .Gt (E.item (E.var "key") (E.const (.int 1))) (E.var "functor")]) (S.seq (S.asg "functor" (E.item (E.var "key") (E.const (.int 1)))) (S.nil)) (S.nil) m H = some (.next, m2, H) ∧ m2 "functor" = some (.int (fmax key f)) ∧ ∀ z, z ∉ ["functor"] → m2 z = m z := by
  have kw := key_word (H := H) (w := "struct") mk
  have no : key.kind ≠ .st → _ := fun h => s_ifF (A := S.seq (S.asg "functor" (E.item (E.var "key") (E.const (.int 1)))) (S.nil)) (t_andF (ts := [T.cmp .Gt (E.item (E.var "key") (E.const (.int 1))) (E.var "functor")]) (kw.trans (by rw [decide_eq_false (p := key.kind.word = "struct") fun e => h (Kind.word_inj (b := .st) e)])))
  cases key with
  | st y =>
    have i1 : E.item (E.var "key") (E.const (.int 1)) m H = some (.int y, H) := e_itemv mk (tup_get (n := 1) (by decide) rfl)
    have t3 := t_gt i1 (e_var mf)
    rw [show fmax (.st y) f = if f < y then y else f from rfl]
    by_cases hg : f < y
    · rw [if_pos hg]
      rw [decide_eq_true hg] at t3
      exact ⟨_, s_ifT (t_andT kw (t_and1 t3)) (s_asg i1 rfl), upd_self, loc_upd (.head _) fun _ _ => rfl⟩
    · rw [if_neg hg]
      rw [decide_eq_false hg] at t3
      exact ⟨m, s_ifF (t_andT kw (t_and1 t3)), mf, fun _ _ => rfl⟩
  | var => exact ⟨m, no (fun h => nomatch h), mf, fun _ _ => rfl⟩
  | list => exact ⟨m, no (fun h => nomatch h), mf, fun _ _ => rfl⟩
  | co c n => exact ⟨m, no (fun h => nomatch h), mf, fun _ _ => rfl⟩
end
structure KI (H : Hp) (dk sm : List Key) (g f : Int) (m : Loc) (H2 : Hp) : Prop where
  ks : m "keys" = some (.ref H.length)
  mg : m "greatest" = some (.int g)
  mf : m "functor" = some (.int f)
  ok : SmpOk dk sm g f
  few : sm.length ≤ 2 + dk.length
  list : H2[H.length]? = some (.list (sm.map Key.enc))
  ext : Ext H H2
theorem KI.step {H H2 : Hp} {dk sm : List Key} {g f : Int} {m : Loc} {r : Nat} {key : Key} {fs : List (String × V)} (x : KI H dk sm g f m H2) (hd : dk.length < 1000) (ho : H2[r]? = some (.inst C_ClauseCode fs)) (hk : fs.lookup "key" = some key.enc) :
    Run ((S.seq (S.asg "key" (E.attr C_ClauseCode "key" (E.var "code"))) (S.seq (S.iff (T.cmp .NotIn (E.var "key") (E.var "keys")) (S.seq (S.expr (E.lmeth E.opAppend (E.var "keys") [E.var "key"])) (S.nil)) (S.nil)) (S.seq (S.iff (T.and [T.cmp .Eq (E.item (E.var "key") (E.const (.int 0))) (E.const (.str "const")), T.cmp .Eq (E.item (E.item (E.var "key") (E.const (.int 1))) (E.const (.int 0))) (E.const (.int 5)), T.cmp .Gt (E.item (E.item (E.var "key") (E.const (.int 1))) (E.const (.int 1))) (E.var "greatest")]) (S.seq (S.asg "greatest" (E.item (E.item (E.var "key") (E.const (.int 1))) (E.const (.int 1)))) (S.nil)) (S.nil)) (S.seq (S.iff (T.and [T.cmp .Eq (E.item (E.var "key") (E.const (.int 0))) (E.const (.str "struct")), T.cmp .Gt (E.item (E.var "key") (E.const (.int 1))) (E.var "functor")]) (S.seq (S.asg "functor" (E.item (E.var "key") (E.const (.int 1)))) (S.nil)) (S.nil)) (S.nil))))) (upd m "code" (.ref r)) H2) fun z => z.1 = .next ∧ ∃ sm g f, KI H (dk ++ [key]) sm g f z.2.1 z.2.2 := by
  refine .of (s_asg (e_attr (e_var upd_self) ho hk) rfl) ?_
  have k0 : upd (upd m "code" (.ref r)) "key" key.enc "key" = some key.enc := upd_self
  have k1 : ∀ z, z ∉ ["code", "key"] → upd (upd m "code" (.ref r)) "key" key.enc z = m z := loc_upd (.tail _ (.head _)) (loc_upd (.head _) fun _ _ => rfl)
  generalize upd (upd m "code" (.ref r)) "key" key.enc = m1 at *
  have mk := (k1 _ (by decide)).trans x.ks
  have hb := Nat.lt_of_le_of_lt x.few (show 2 + dk.length < 100000 by omega)
  have part : ∃ H3, S.iff (T.cmp .NotIn (E.var "key") (E.var "keys")) (S.seq (S.expr (E.lmeth E.opAppend (E.var "keys") [E.var "key"])) (S.nil)) (S.nil) m1 H2 = some (.next, m1, H3) ∧ H3[H.length]? = some (.list ((if key ∈ sm then sm else sm ++ [key]).map Key.enc)) ∧ Ext H H3 := by
    have t := t_inF (e_var (H := H2) k0) (e_var mk) (inV_keys key x.list)
    by_cases h : key ∈ sm
    · rw [if_pos h]
      rw [decide_eq_true h] at t
      exact ⟨H2, s_ifF t, x.list, x.ext⟩
    · rw [if_neg h]
      rw [decide_eq_false h] at t
      exact ⟨_, s_ifT t (s_expr (e_app (e_var mk) x.list (e_var k0) x.list (lt_big (by rw [List.length_map]; exact hb))) rfl), by rw [get_set x.list, List.map_append]; rfl, x.ext.set_new (Nat.le_refl _)⟩
  obtain ⟨H3, e3, l3, x3⟩ := part
  obtain ⟨m4, e4, g4, k4⟩ := greatest_ok (H := H3) k0 ((k1 _ (by decide)).trans x.mg)
  obtain ⟨m5, e5, f5, k5⟩ := functor_max (H := H3) ((k4 _ (by decide)).trans k0) ((k4 _ (by decide)).trans ((k1 _ (by decide)).trans x.mf))
  refine ⟨_, s_one e3 (s_one e4 (s_one e5 rfl)), rfl, _, _, _, (k5 _ (by decide)).trans ((k4 _ (by decide)).trans mk), (k5 _ (by decide)).trans g4, f5, x.ok.snoc key, ?_, l3, x3⟩
  rw [List.length_append]
  split
  · exact Nat.le_succ_of_le x.few
  · rw [List.length_append]; exact Nat.succ_le_succ x.few
structure Smp (H : Hp) (keys : List Key) (q : Nat) (H2 : Hp) : Prop where
  ext : Ext H H2
  list : ∃ sm g f, SmpOk keys sm g f ∧ H2[q]? = some (.list ((sm ++ [Key.co 5 (g + 1), Key.st (f + 1)]).map Key.enc)) ∧ sm.length < 200
theorem sample_keys_ok {H : Hp} {c : Nat} {keys : List Key} (hc : Codes H c keys) (few : keys.length < 100) : RunR (P.sample_keys [.ref c] H) (Smp H keys) := by
  obtain ⟨G, g1, g2, g3⟩ := hc.pairs
  have gl : G.length < 100 := by rw [← List.length_map (f := Prod.snd), g2]; exact few
  have e1 : Ext H (H ++ [.list ([Key.var, Key.list].map Key.enc)]) := .push
  refine RunR_fn rfl (.of (s_asg (e_list (evs2 rfl rfl)) (s_asg (X := .int 0) rfl (s_asg (X := .int 0) rfl rfl))) ?_)
  refine Run.forL (enc := fun p : Nat × Key => V.ref p.1) (l := G) (fun d m H2 => ∃ sm g f, KI H (d.map (·.2)) sm g f m H2) (e_var rfl) (e1.get g1) (fun d m H2 ⟨_, _, _, i⟩ => i.ext.get g1) ⟨[.var, .list], 0, 0, rfl, rfl, rfl, ⟨(fun _ h => nomatch h), (fun _ h => nomatch h), fun k => ⟨fun h => (List.mem_cons.mp h).imp id fun h => .inl (List.mem_singleton.mp h), fun h => h.elim (fun e => e ▸ .head _) fun h => h.elim (fun e => e ▸ .tail _ (.head _)) fun h => (nomatch h)⟩⟩, Nat.le_refl _, get_new, e1⟩ (fun d a t m H2 h ⟨_, _, _, i⟩ => ?_) fun m H2 ⟨sm, g, f, i⟩ => ?_
  · obtain ⟨fs, f1, f2⟩ := g3 a (mid_lt h).2
    rw [List.map_append]
    exact i.step (by rw [List.length_map]; exact Nat.lt_trans (Nat.lt_trans (mid_lt h).1 gl) (by decide)) (i.ext.get f1) f2
  · have ok := i.ok
    have hz := i.few
    rw [g2] at ok hz
    have hz2 : sm.length < 200 := by omega
    have k5 := get_set (o := .list (sm.map Key.enc ++ [(Key.co 5 (g + 1)).enc])) i.list
    have k6 := get_set (o := .list (sm.map Key.enc ++ [(Key.co 5 (g + 1)).enc] ++ [(Key.st (f + 1)).enc])) k5
    have ck : ∀ v H, P.const_key [v] H = some (.tup [.str "const", v], H) := fun v H => Run_eq (Run_fn rfl (.of (s_ret (e_tup (evs2 rfl rfl))) ⟨_, rfl, rfl⟩))
    have sk : ∀ v H, P.struct_key [v] H = some (.tup [.str "struct", v], H) := fun v H => Run_eq (Run_fn rfl (.of (s_ret (e_tup (evs2 rfl rfl))) ⟨_, rfl, rfl⟩))
    refine .of (s_expr (e_app (e_var i.ks) i.list (X := (Key.co 5 (g + 1)).enc) (e_call1 (e_tup (evs2 rfl (e_add (i2 := 1) (e_var i.mg) rfl))) (ck _ _)) i.list (lt_big (by rw [List.length_map]; omega))) (s_expr (e_app (e_var i.ks) k5 (X := (Key.st (f + 1)).enc) (e_call1 (e_add (i2 := 1) (e_var i.mf) rfl) (sk _ _)) k5 (lt_big (by rw [List.length_append, List.length_map, List.length_singleton]; omega))) rfl)) ?_
    refine Run.ret (e_var i.ks) ⟨_, rfl, Ext.set_new (i.ext.set_new (Nat.le_refl _)) (Nat.le_refl _), sm, g, f, ok, ?_, hz2⟩
    rw [k6, List.map_append, List.append_assoc]
    rfl
/-- the key of the clause x matches -/
noncomputable def matAt (keys : List Key) (key : Key) (x : Int) : Bool := (keys[x.toNat]?).any (mat · key)
noncomputable def okAt (keys : List Key) (vis : Key → List Int) (exact : Bool) (key : Key) : Bool := decide ((if exact = true then vis key else (vis key).filter (matAt keys key)) = zs (cand keys key))
noncomputable def Vis (B : List Row) (many wide : Int) (cc : Nat) (vis : Key → List Int) : Prop := ∀ key, ∃ n, n ≤ 200 ∧ W B many wide key cc true B (vis key) n
structure Blk (B : List Row) (many wide : Int) (cc : Nat) (vis : Key → List Int) : Prop where
  vis : Vis B many wide cc vis
  uniq : Uniq B
  len : B.length < 50000
  one : 1 ≤ cc
  two : 2 ≤ many
theorem ints_flat {n : Nat} (L : List Int) : flatsN n (L.map .int) = true := by
  induction L with
  | nil => cases n <;> rfl
  | cons p ps ih => cases n <;> simp_all [flatsN, flatN]
theorem map_int_inj {a b : List Int} : a.map V.int = b.map V.int ↔ a = b := List.map_inj_right (fun a b h => by cases h; rfl)
theorem eqV_ints {H : Hp} {i j : Nat} {a b : List Int} (h1 : H[i]? = some (.list (a.map .int))) (h2 : H[j]? = some (.list (b.map .int))) : eqV H (.ref i) (.ref j) = some (decide (a = b)) := by
  unfold eqV
  simp only [h1, h2]
  rw [if_pos ⟨ints_flat a, ints_flat b⟩, ← dec_decide]
  exact congrArg some (dec_iff (dec_eq_true_iff.trans map_int_inj))
/-- a loop that returns False at the first that fails -/
theorem Run.forAll {α : Type} {enc : α → V} {x : String} {body R : Sx} {m : Loc} {H H1 : Hp} {P : Fl × Loc × Hp → Prop} {e : Ex} {r : Nat} {l : List α} {p : α → Bool} (I : Loc → Hp → Prop) (he : e m H = some (.ref r, H1)) (hr : H1[r]? = some (.list (l.map enc))) (st : ∀ m H, I m H → H[r]? = some (.list (l.map enc))) (i : I m H1)
    (step : ∀ a m H, I m H → Run (body (upd m x (enc a)) H) fun z => z.1 = (if p a = true then .next else .ret (.bool false)) ∧ I z.2.1 z.2.2) (k : ∀ m H, I m H → if l.all p = true then Run (R m H) P else P (.ret (.bool false), m, H)) : Run (S.seq (S.forIn (S.b1 x) e body) R m H) P := by
  have go : ∀ (t : List α) (m : Loc) (H : Hp), I m H → ∃ m2 H2, S.turns (S.stillIs (.ref r) (l.map enc)) (S.b1 x) body (t.map enc) m H = some (if t.all p = true then .next else .ret (.bool false), m2, H2) ∧ I m2 H2 := by
    intro t
    induction t with
    | nil => exact fun m H i => ⟨m, H, if_pos (stillIs_ref (st m H i)), i⟩
    | cons a t ih =>
      intro m H i
      obtain ⟨⟨fl, m2, H2⟩, e2, h1, h2⟩ := step a m H i
      have hs := stillIs_ref (st m H i)
      dsimp only at h1
      rw [List.all_cons]
      cases hp : p a with
      | true =>
        rw [hp, if_pos rfl] at h1
        subst h1
        obtain ⟨m3, H3, e3, i3⟩ := ih m2 H2 h2
        refine ⟨m3, H3, Eq.trans (if_pos hs) ?_, i3⟩
        show (body (upd m x (enc a)) H).bind _ = _
        rw [e2]; exact e3
      | false =>
        rw [hp, if_neg (by decide)] at h1
        subst h1
        refine ⟨m2, H2, Eq.trans (if_pos hs) ?_, h2⟩
        show (body (upd m x (enc a)) H).bind _ = _
        rw [e2]; rfl
  obtain ⟨m2, H2, e2, i2⟩ := go l m H1 i
  have kk := k m2 H2 i2
  have ef : S.forIn (S.b1 x) e body m H = some (if l.all p = true then .next else .ret (.bool false), m2, H2) := by
    unfold S.forIn
    rw [he]
    simp only [Option.bind_some, S.items, hr]
    exact e2
  cases hb : l.all p with
  | true => rw [hb] at ef kk; exact .of (s_one ef rfl) kk
  | false => rw [hb] at ef kk; exact ⟨_, s_stop ef, kk⟩
theorem t_not {t : Tx} {m : Loc} {H H1 : Hp} {p : Bool} (h : t m H = some (p, H1)) : T.not t m H = some (!p, H1) := by unfold T.not; rw [h]; rfl
section
variable {H : Hp} {B : List Row} {keys : List Key} {wide : Int} {cc bq c : Nat} {vis : Key → List Int} {exact : Bool}
/-- the last part: compare the two lists -/
theorem ok_end {y z : String} {ez : Ex} {m : Loc} {H H1 : Hp} {q q2 : Nat} {key : Key} (hy : m y = some (.ref q)) (hz : ez m H = some (.ref q2, H1)) (g1 : H1[q]? = some (.list ((if exact = true then vis key else (vis key).filter (matAt keys key)).map .int))) (g2 : H1[q2]? = some (.list (nats (cand keys key)))) :
    ∃ m2, S.seq (S.iff (T.cmp .NotEq (E.var y) ez) (S.seq (S.ret (E.const (.bool false))) (S.nil)) (S.nil)) S.nil m H = some (if okAt keys vis exact key = true then .next else .ret (.bool false), m2, H1) ∧ m2 = m := by
  rw [nats_zs] at g2
  have t : T.cmp .NotEq (E.var y) ez m H = some (!okAt keys vis exact key, H1) := t_cmp (e_var hy) hz (by unfold cmpV; rw [eqV_ints g1 g2]; rfl)
  cases hq : okAt keys vis exact key with
  | true => rw [hq] at t; exact ⟨m, s_skip t rfl, rfl⟩
  | false => rw [hq] at t; exact ⟨m, s_iffT t (s_assoc.trans (s_ret rfl)), rfl⟩
structure CA (c bq : Nat) (exact : Bool) (H0 : Hp) (m : Loc) (H : Hp) : Prop where
  codes : m "codes" = some (.ref c)
  block : m "block" = some (.ref bq)
  ex : m "exact" = some (.bool exact)
  ext : Ext H0 H
theorem check_body {H0 : Hp} (hc : Codes H0 c keys) (few : keys.length < 100) (hB : Blk B keys.length wide cc vis) (hb : H0[bq]? = some (.list (B.map Row.enc))) {m : Loc} (key : Key) (mk : m "key" = some key.enc) (x : CA c bq exact H0 m H) :
    Run ((S.seq (S.asg "tried" (E.call P.tried_clauses [E.var "block", E.len (E.var "codes"), E.var "key"])) (S.seq (S.iff (T.not (T.of (E.var "exact"))) (S.seq (S.asg "tried" (E.comp ["key", "codes"] (S.b1 "place") (E.var "tried") (T.of (E.call P.matching [E.attr C_ClauseCode "key" (E.item (E.var "codes") (E.var "place")), E.var "key"])) (E.var "place"))) (S.nil)) (S.nil)) (S.seq (S.iff (T.cmp .NotEq (E.var "tried") (E.call P.candidates [E.var "codes", E.var "key"])) (S.seq (S.ret (E.const (.bool false))) (S.nil)) (S.nil)) (S.nil)))) m H) fun z =>
      z.1 = (if okAt keys vis exact key = true then .next else .ret (.bool false)) ∧ CA c bq exact H0 z.2.1 z.2.2 := by
  obtain ⟨n, hn, hw⟩ := hB.vis key
  refine (tried_ok hw hB.one (Nat.le_trans hn (by decide)) hB.uniq hB.len hB.two (x.ext.get hb)).use fun q H1 e1 y => .of (s_asg (e_call3 (e_var x.block) (e_codes (hc.ext x.ext) (e_var x.codes)) (e_var mk) e1) rfl) ?_
  have hl : ∀ z, z ∉ ["tried"] → upd m "tried" (.ref q) z = m z := loc_upd (.head _) fun _ _ => rfl
  have ht : upd m "tried" (.ref q) "tried" = some (.ref q) := upd_self
  generalize upd m "tried" (.ref q) = m1 at *
  have x1 : Ext H0 H1 := x.ext.trans y.ext
  have g1 := y.list
  clear e1 y
  have part : ∃ m2 q2 H2, S.iff (T.not (T.of (E.var "exact"))) (S.seq (S.asg "tried" (E.comp ["key", "codes"] (S.b1 "place") (E.var "tried") (T.of (E.call P.matching [E.attr C_ClauseCode "key" (E.item (E.var "codes") (E.var "place")), E.var "key"])) (E.var "place"))) (S.nil)) (S.nil) m1 H1 = some (.next, m2, H2) ∧ (∀ z, z ∉ ["tried"] → m2 z = m z) ∧ m2 "tried" = some (.ref q2) ∧ H2[q2]? = some (.list ((if exact = true then vis key else (vis key).filter (matAt keys key)).map .int)) ∧ Ext H1 H2 := by
    have t := t_not (e_t (H1 := H1) (e_var ((hl _ (by decide)).trans x.ex)))
    cases exact with
    | true => exact ⟨m1, q, H1, s_ifF t, hl, ht, g1, .refl⟩
    | false =>
      have hlen : ((vis key).map V.int).length < 100000 := by rw [List.length_map]; exact Nat.lt_of_le_of_lt (Nat.le_trans (hw.len hB.one).1 hn) (by decide)
      refine ⟨_, _, _, s_ifT t (s_asg (comp_eq (Z := ((vis key).filter (matAt keys key)).map .int) (e_var ht) g1 hlen (turnsC_ok (Q := fun m' => m' "key" = some key.enc ∧ m' "codes" = some (.ref c)) (stillIs_ref g1) (vis key) (fun v hv m' hm' => ?_) _ ⟨(hl "key" (by decide)).trans mk, (hl "codes" (by decide)).trans x.codes⟩)) rfl), loc_upd (.head _) hl, upd_self, get_new, .push⟩
      obtain ⟨r0, r1⟩ := hw.range hB.one v hv
      have hv2 : ((v.toNat : Nat) : Int) = v := Int.toNat_of_nonneg r0
      have hj : v.toNat < keys.length := by omega
      have kk := List.getElem?_eq_getElem hj
      refine ⟨upd m' "place" (.int v), rfl, ⟨(upd_ne (by decide)).trans hm'.1, (upd_ne (by decide)).trans hm'.2⟩, e_t (e_call2 (e_key (j := v.toNat) (hc.ext x1) kk (e_var ((upd_ne (by decide)).trans hm'.2)) (e_var (by rw [hv2]; exact upd_self))) (e_var ((upd_ne (by decide)).trans hm'.1)) ?_), fun _ => e_var upd_self⟩
      rw [matching_ok, mpl_at kk]
      rfl
  obtain ⟨m2, q2, H2, e2, h2, t2, g2, f2⟩ := part
  refine .of (s_one e2 rfl) ?_
  refine (candidates_ok (key := key) (hc.ext (x1.trans f2)) few).use fun q3 H3 e3 y => ?_
  obtain ⟨_, e4, rfl⟩ := ok_end (z := "") (keys := keys) (vis := vis) t2 (e_call2 (e_var ((h2 _ (by decide)).trans x.codes)) (e_var ((h2 _ (by decide)).trans mk)) e3) (y.ext.get g2) y.list
  exact ⟨_, e4, rfl, (h2 _ (by decide)).trans x.codes, (h2 _ (by decide)).trans x.block, (h2 _ (by decide)).trans x.ex, (x1.trans f2).trans y.ext⟩
theorem check_index_ok (hc : Codes H c keys) (few : keys.length < 100) (hB : Blk B keys.length wide cc vis) (hb : H[bq]? = some (.list (B.map Row.enc))) :
    ∃ sm g f, SmpOk keys sm g f ∧ RunV (P.check_index [.ref c, .ref bq, .bool exact] H) (.bool ((sm ++ [Key.co 5 (g + 1), Key.st (f + 1)]).all (okAt keys vis exact))) (Ext H) := by
  obtain ⟨q, H1, e1, y⟩ := sample_keys_ok hc few
  obtain ⟨sm, g, f, so, g1, _⟩ := y.list
  refine ⟨sm, g, f, so, RunV_fn rfl (Run.forAll (enc := Key.enc) (p := okAt keys vis exact) (CA c bq exact H1) (e_call1 (e_var rfl) e1) g1 (fun m H i => i.ext.get g1) ⟨rfl, rfl, rfl, .refl⟩ (fun key m H2 i => ?_) fun m H2 i => ?_)⟩
  · exact check_body (hc.ext y.ext) few hB (y.ext.get hb) key upd_self ⟨(upd_ne (by decide)).trans i.codes, (upd_ne (by decide)).trans i.block, (upd_ne (by decide)).trans i.ex, i.ext⟩
  · cases hb : (sm ++ [Key.co 5 (g + 1), Key.st (f + 1)]).all (okAt keys vis exact) with
    | true => exact Run.ret rfl ⟨rfl, y.ext.trans i.ext⟩
    | false => exact ⟨rfl, y.ext.trans i.ext⟩
end
section
variable {H : Hp} {B : List Row} {keys : List Key} {wide : Int} {cc bq c kq : Nat} {vis : Key → List Int} {exact : Bool}
theorem due_eq {key : Key} {m : Loc} {nE : Ex} (hk : H[kq]? = some (.list (keys.map Key.enc))) (few : keys.length < 100) (mk : m "keys" = some (.ref kq)) (mc : m "call" = some key.enc) (hn : nE m H = some (.int keys.length, H)) :
    E.compR ["call", "keys"] (S.b1 "place") nE (T.of (E.call P.law_matches [E.item (E.var "keys") (E.var "place"), E.var "call"])) (E.var "place") m H = some (.ref H.length, H ++ [.list (nats (cand keys key))]) := by
  refine compR_eq hn (Nat.lt_trans few (by decide)) (turnsC_ok (Q := fun m' => m' "keys" = some (.ref kq) ∧ m' "call" = some key.enc) (yes_ok H) (List.range keys.length) (fun j hj m' hm' => ?_) _ ⟨mk, mc⟩)
  have hj := List.mem_range.mp hj
  have kk := List.getElem?_eq_getElem hj
  refine ⟨upd m' "place" (.int j), rfl, ⟨(upd_ne (by decide)).trans hm'.1, (upd_ne (by decide)).trans hm'.2⟩, e_t (e_call2 (e_itemvv ((upd_ne (by decide)).trans hm'.1) upd_self (list_get (X := keys[j].enc) hk (by rw [List.getElem?_map, kk]; rfl))) (e_var ((upd_ne (by decide)).trans hm'.2)) ?_), fun _ => e_var upd_self⟩
  rw [law_matches_ok, mpl_at kk]
theorem met_ok {key : Key} {m : Loc} {nE : Ex} {many : Int} (hB : Blk B many wide cc vis) (hb : H[bq]? = some (.list (B.map Row.enc))) (mb : m "block" = some (.ref bq)) (mw : m "wide" = some (.int wide)) (mc : m "call" = some key.enc) (hn : nE m H = some (.int many, H)) :
    RunR (E.comp [] (S.b2 "place" "left") (E.call P.law_visits [E.var "block", nE, E.var "wide", E.var "call"]) T.yes (E.var "place") m H) (NewL H ((vis key).map .int)) := by
  obtain ⟨n, hn2, hw⟩ := hB.vis key
  refine (law_visits_ok hw hB.one hn2 hB.uniq hB.len (Int.le_trans (by decide) hB.two) hb).use fun q H1 e1 y => ?_
  obtain ⟨F, hF, g1⟩ := y.list
  have hlen : (F.map encF).length < 100000 := by
    rw [List.length_map, ← List.length_map (f := Prod.fst), hF]
    exact Nat.lt_of_le_of_lt (Nat.le_trans (hw.len hB.one).1 hn2) (by decide)
  have ec : E.call P.law_visits [E.var "block", nE, E.var "wide", E.var "call"] m H = some (.ref q, H1) := by
    unfold E.call
    rw [evsC (e_var mb) (evs3 hn (e_var mw) (e_var mc))]
    exact e1
  refine ⟨_, _, comp_eq (Z := (vis key).map .int) ec g1 hlen ((turnsC_ok (p := fun _ => true) (f := fun x : Int × Nat => .int x.1) (Q := fun _ => True) (stillIs_ref g1) F (fun a ha m' _ => ⟨_, rfl, trivial, rfl, fun _ => rfl⟩) _ trivial).trans ?_), y.ext.trans .push, get_new, y.ext.2⟩
  rw [← hF, List.filter_eq_self.mpr fun _ _ => rfl, List.map_map]
  rfl
theorem cand_mem {key : Key} {x : Int} (h0 : 0 ≤ x) (h1 : x < keys.length) : x ∈ zs (cand keys key) ↔ matAt keys key x = true := by
  have e : ((x.toNat : Nat) : Int) = x := Int.toNat_of_nonneg h0
  refine ⟨fun h => ?_, fun h => List.mem_map.mpr ⟨x.toNat, List.mem_filter.mpr ⟨List.mem_range.mpr (by omega), h⟩, e⟩⟩
  obtain ⟨j, hj, rfl⟩ := List.mem_map.mp h
  exact (List.mem_filter.mp hj).2
theorem inV_ints {A : Hp} {q : Nat} {L : List Int} {x : Int} (h : A[q]? = some (.list (L.map .int))) : inV A (.int x) (.ref q) = some (decide (x ∈ L)) := by
  rw [h_in h]
  show (if _ then some (dec _) else _) = _
  rw [if_pos ⟨rfl, ints_flat L⟩, ← dec_decide]
  exact congrArg some (dec_iff (dec_eq_true_iff.trans ⟨fun h => let ⟨_, h1, h2⟩ := List.mem_map.mp h; by cases h2; exact h1, List.mem_map_of_mem⟩))
structure CB (kq bq : Nat) (wide : Int) (exact : Bool) (H0 : Hp) (m : Loc) (H : Hp) : Prop where
  keys : m "keys" = some (.ref kq)
  block : m "block" = some (.ref bq)
  ex : m "exact" = some (.bool exact)
  wide : m "wide" = some (.int wide)
  ext : Ext H0 H
theorem checked_body {H0 : Hp} (few : keys.length < 100) (hk : H0[kq]? = some (.list (keys.map Key.enc))) (hB : Blk B keys.length wide cc vis) (hb : H0[bq]? = some (.list (B.map Row.enc))) {m : Loc} (key : Key) (mk : m "call" = some key.enc) (x : CB kq bq wide exact H0 m H) :
    Run ((S.seq (S.asg "due" (E.compR ["call", "keys"] (S.b1 "place") (E.len (E.var "keys")) (T.of (E.call P.law_matches [E.item (E.var "keys") (E.var "place"), E.var "call"])) (E.var "place"))) (S.seq (S.asg "met" (E.comp [] (S.b2 "place" "left") (E.call P.law_visits [E.var "block", E.len (E.var "keys"), E.var "wide", E.var "call"]) (T.yes) (E.var "place"))) (S.seq (S.iff (T.not (T.of (E.var "exact"))) (S.seq (S.asg "met" (E.comp ["due"] (S.b1 "place") (E.var "met") (T.cmp .In (E.var "place") (E.var "due")) (E.var "place"))) (S.nil)) (S.nil)) (S.seq (S.iff (T.cmp .NotEq (E.var "met") (E.var "due")) (S.seq (S.ret (E.const (.bool false))) (S.nil)) (S.nil)) (S.nil))))) m H) fun z =>
      z.1 = (if okAt keys vis exact key = true then .next else .ret (.bool false)) ∧ CB kq bq wide exact H0 z.2.1 z.2.2 := by
  have kl : ∀ {m : Loc} {H : Hp}, m "keys" = some (.ref kq) → Ext H0 H → E.len (E.var "keys") m H = some (.int keys.length, H) := fun h e => (e_len (e_var h) (e.get hk)).trans (by rw [List.length_map])
  refine .of (s_asg (due_eq (x.ext.get hk) few x.keys mk (kl x.keys x.ext)) rfl) ?_
  have x0 : Ext H (H ++ [.list (nats (cand keys key))]) := .push
  have gd : (H ++ [O.list (nats (cand keys key))])[H.length]? = some (.list (nats (cand keys key))) := get_new
  have f0 : Ext H0 _ := x.ext.trans x0
  have hl : ∀ z, z ∉ ["met", "due"] → upd m "due" (.ref H.length) z = m z := loc_upd (.tail _ (.head _)) fun _ _ => rfl
  have hd : upd m "due" (.ref H.length) "due" = some (.ref H.length) := upd_self
  generalize upd m "due" (.ref H.length) = m1 at *
  generalize H ++ [O.list (nats (cand keys key))] = A0 at *
  refine (met_ok (m := m1) hB (Ext.get f0 hb) ((hl _ (by decide)).trans x.block) ((hl _ (by decide)).trans x.wide) ((hl _ (by decide)).trans mk) (kl ((hl _ (by decide)).trans x.keys) f0)).use fun q H1 e1 y => .of (s_asg e1 rfl) ?_
  have hl1 : ∀ z, z ∉ ["met", "due"] → upd m1 "met" (.ref q) z = m z := loc_upd (.head _) hl
  have ht : upd m1 "met" (.ref q) "met" = some (.ref q) := upd_self
  have hd1 : upd m1 "met" (.ref q) "due" = some (.ref H.length) := (upd_ne (by decide)).trans hd
  generalize upd m1 "met" (.ref q) = m2 at *
  have g1 := y.list
  have gd1 := y.ext.get gd
  have f1 : Ext H0 H1 := f0.trans y.ext
  clear e1 y hl hd gd x0 f0
  obtain ⟨n, hn, hw⟩ := hB.vis key
  have part : ∃ m3 q2 H2, S.iff (T.not (T.of (E.var "exact"))) (S.seq (S.asg "met" (E.comp ["due"] (S.b1 "place") (E.var "met") (T.cmp .In (E.var "place") (E.var "due")) (E.var "place"))) (S.nil)) (S.nil) m2 H1 = some (.next, m3, H2) ∧ (∀ z, z ∉ ["met"] → m3 z = m2 z) ∧ m3 "met" = some (.ref q2) ∧ H2[q2]? = some (.list ((if exact = true then vis key else (vis key).filter (matAt keys key)).map .int)) ∧ Ext H1 H2 := by
    have t := t_not (e_t (H1 := H1) (e_var ((hl1 _ (by decide)).trans x.ex)))
    cases exact with
    | true => exact ⟨m2, q, H1, s_ifF t, fun _ _ => rfl, ht, g1, .refl⟩
    | false =>
      have hlen : ((vis key).map V.int).length < 100000 := by rw [List.length_map]; exact Nat.lt_of_le_of_lt (Nat.le_trans (hw.len hB.one).1 hn) (by decide)
      refine ⟨_, _, _, s_ifT t (s_asg (comp_eq (Z := ((vis key).filter (matAt keys key)).map .int) (e_var ht) g1 hlen (turnsC_ok (Q := fun m' => m' "due" = some (.ref H.length)) (stillIs_ref g1) (vis key) (fun v hv m' hm' => ?_) _ hd1)) rfl), loc_upd (.head _) fun _ _ => rfl, upd_self, get_new, .push⟩
      obtain ⟨r0, r1⟩ := hw.range hB.one v hv
      refine ⟨upd m' "place" (.int v), rfl, (upd_ne (by decide)).trans hm', t_cmp (e_var upd_self) (e_var ((upd_ne (by decide)).trans hm')) ((inV_ints (nats_zs _ ▸ gd1)).trans (congrArg some ?_)), fun _ => e_var upd_self⟩
      have cm := cand_mem (key := key) r0 r1
      cases hm : matAt keys key v with
      | true => rw [hm] at cm; exact decide_eq_true (cm.mpr rfl)
      | false => rw [hm] at cm; exact decide_eq_false fun h => nomatch cm.mp h
  obtain ⟨m3, q2, H2, e2, h2, t2, g2, f2⟩ := part
  obtain ⟨_, e4, rfl⟩ := ok_end (z := "") (keys := keys) (vis := vis) t2 (e_var ((h2 _ (by decide)).trans hd1)) g2 (f2.get gd1)
  exact ⟨_, s_one e2 e4, rfl, (h2 _ (by decide)).trans ((hl1 _ (by decide)).trans x.keys), (h2 _ (by decide)).trans ((hl1 _ (by decide)).trans x.block), (h2 _ (by decide)).trans ((hl1 _ (by decide)).trans x.ex), (h2 _ (by decide)).trans ((hl1 _ (by decide)).trans x.wide), f1.trans f2⟩
theorem law_checked_ok {cq : Nat} {calls : List Key} (few : keys.length < 100) (hk : H[kq]? = some (.list (keys.map Key.enc))) (hq : H[cq]? = some (.list (calls.map Key.enc))) (hB : Blk B keys.length wide cc vis) (hb : H[bq]? = some (.list (B.map Row.enc))) :
    RunV (P.law_checked [.ref bq, .ref kq, .ref cq, .int wide, .bool exact] H) (.bool (calls.all (okAt keys vis exact))) (Ext H) := by
  refine RunV_fn rfl (Run.forAll (enc := Key.enc) (p := okAt keys vis exact) (CB kq bq wide exact H) (e_var rfl) hq (fun m H i => i.ext.get hq) ⟨rfl, rfl, rfl, rfl, .refl⟩ (fun key m H2 i => ?_) fun m H2 i => ?_)
  · exact checked_body few hk hB hb key upd_self ⟨(upd_ne (by decide)).trans i.keys, (upd_ne (by decide)).trans i.block, (upd_ne (by decide)).trans i.ex, (upd_ne (by decide)).trans i.wide, i.ext⟩
  · cases hb : calls.all (okAt keys vis exact) with
    | true => exact Run.ret rfl ⟨rfl, i.ext⟩
    | false => exact ⟨rfl, i.ext⟩
theorem leaves_ok {key : Key} (hc : Codes H c keys) (few : keys.length < 100) : RunV (P.leaves_choice [.ref c, key.enc] H) (.bool (decide (1 < (cand keys key).length))) (Ext H) := by
  refine (candidates_ok (key := key) hc few).use fun q H1 e1 y => RunV_fn rfl ⟨_, s_ret (X := .bool (decide (1 < (cand keys key).length))) (H1 := H1) ?_, rfl, y.ext⟩
  unfold E.cmp
  rw [e_len (e_call2 (e_var rfl) (e_var rfl) e1) y.list, nats_len]
  show some (V.bool (decide ((1 : Int) < ((cand keys key).length : Int))), H1) = _
  exact congrArg (fun b => some (V.bool b, H1)) (decide_eq_decide.mpr (Int.ofNat_lt (n := 1)))
end
/-! labels -/
noncomputable def labOf : Row → Option Int
  | .lab l => some l
  | _ => none
noncomputable def labs (B : List Row) : List Int := B.filterMap labOf
theorem labs_append (a b : List Row) : labs (a ++ b) = labs a ++ labs b := List.filterMap_append
theorem labs_cons (r : Row) (b : List Row) : labs (r :: b) = labs [r] ++ labs b := labs_append [r] b
theorem mem_labs {B : List Row} {l : Int} : l ∈ labs B ↔ Row.lab l ∈ B := by
  unfold labs
  rw [List.mem_filterMap]
  refine ⟨fun ⟨r, hr, e⟩ => ?_, fun h => ⟨_, h, rfl⟩⟩
  cases r with
  | lab l' => cases e; exact hr
  | _ => cases e
theorem uniq_of {B : List Row} (h : (labs B).Nodup) : Uniq B := by
  intro p q l hp hq
  have key : ∀ p q : Nat, p < q → B[p]? = some (Row.lab l) → B[q]? = some (Row.lab l) → False := fun p q lt hp hq => by
    have e : B = B.take (p + 1) ++ B.drop (p + 1) := (List.take_append_drop _ _).symm
    rw [e, labs_append] at h
    refine (List.nodup_append.mp h).2.2 l (mem_labs.mpr (List.mem_of_getElem? (i := p) ?_)) l (mem_labs.mpr (List.mem_of_getElem? (i := q - (p + 1)) ?_)) rfl
    · rw [List.getElem?_take_of_lt (Nat.lt_succ_self p)]; exact hp
    · rw [List.getElem?_drop, Nat.add_sub_cancel' lt]; exact hq
  rcases Nat.lt_trichotomy p q with h | h | h
  · exact (key p q h hp hq).elim
  · exact h
  · exact (key q p h hq hp).elim
section
variable {B : List Row} {many wide : Int} {key : Key} {cc : Nat}
theorem W.mono {b : Bool} {s : List Row} {o : List Int} {n n' : Nat} (h : n ≤ n') (w : W B many wide key cc b s o n) : W B many wide key cc b s o n' := by
  cases w with
  | clause a b c => exact .clause a b (Nat.le_trans c h)
  | lab a b c => exact .lab a b (Nat.le_trans c h)
  | alt a b c => exact .alt a b (Nat.le_trans c h)
  | trust a b => exact .trust a (Nat.le_trans b h)
  | swt a b => exact .swt a (Nat.le_trans b h)
  | sw a b c d => exact .sw a b c (Nat.le_trans d h)
theorem J.mono {l : Int} {o : List Int} {n n' : Nat} (h : n ≤ n') (w : J B many wide key cc l o n) : J B many wide key cc l o n' := by
  cases w with
  | fail => exact .fail
  | go a b c => exact .go a b (c.mono h)
/-- a table's row, each of its labels leading somewhere -/
theorem sw_W {k : Kind} {ps : List (Key × Int)} {d : Int} {r : List Row} {o : List Int} {n1 n : Nat} (ok : okTab key k ps) (h1 : ∀ p ∈ ps, ∃ o, J B many wide key cc p.2 o n1) (h2 : ∃ o, J B many wide key cc d o n1) (h : J B many wide key cc (look key d ps) o n1) (hn : n1 + 2 ≤ n) :
    W B many wide key cc true (.sw k ps d :: r) o n := by
  classical
  let f : Int → List Int := fun l => if l = look key d ps then o else if h : ∃ o, J B many wide key cc l o n1 then h.choose else []
  have hf : f (look key d ps) = o := if_pos rfl
  have hJ : ∀ l, (∃ o, J B many wide key cc l o n1) → J B many wide key cc l (f l) n1 := fun l hl => by
    show J B many wide key cc l (if l = look key d ps then o else if h : ∃ o, J B many wide key cc l o n1 then h.choose else []) n1
    by_cases e : l = look key d ps
    · rw [if_pos e, e]; exact h
    · rw [if_neg e, dif_pos hl]; exact hl.choose_spec
  have := W.sw (B := B) (many := many) (wide := wide) (key := key) (cc := cc) (r := r) (f := f) (n1 := n1) (n := n) ok (fun p hp => hJ _ (h1 p hp)) (hJ _ h2) hn
  rw [hf] at this
  exact this
/-- a chain of labels -/
noncomputable abbrev Tr := Int × List Int × Nat
noncomputable def outs (ts : List Tr) : List Int := ts.flatMap (·.2.1)
noncomputable def cost (ts : List Tr) : Nat := (ts.map fun t => 2 * (t.2.2 + 1)).sum
theorem chTail_W {rest : List Row} (ts : List Tr) : ∀ t : Tr, (∀ x ∈ t :: ts, J B many wide key 2 x.1 x.2.1 x.2.2) → W B many wide key 2 false (chTail ((t :: ts).map (·.1)) ++ rest) (outs (t :: ts)) (cost (t :: ts)) := by
  induction ts with
  | nil =>
    intro t h
    have e : outs [t] = t.2.1 := List.append_nil _
    rw [e]
    exact .trust (h t List.mem_cons_self) (show t.2.2 + 1 ≤ 2 * (t.2.2 + 1) + 0 by omega)
  | cons t' ts ih => exact fun t h => .alt (b := false) (h t List.mem_cons_self) (ih t' fun x hx => h x (List.mem_cons_of_mem _ hx)) (Nat.le_refl _)
theorem chain_W {rest : List Row} {ts : List Tr} (h2 : 2 ≤ ts.length) (h : ∀ t ∈ ts, J B many wide key 2 t.1 t.2.1 t.2.2) : W B many wide key 2 true (chainRows wide (ts.map (·.1)) ++ rest) (outs ts) (cost ts) := by
  cases ts with
  | nil => exact absurd h2 (Nat.not_succ_le_zero 1)
  | cons t ts =>
    cases ts with
    | nil => exact absurd h2 (Nat.not_succ_le_self 1)
    | cons t' ts => exact .alt (b := true) (h t List.mem_cons_self) (chTail_W ts t' fun x hx => h x (List.mem_cons_of_mem _ hx)) (Nat.le_refl _)
end
/-! where the clauses and the chains lie -/
noncomputable def ClAt (B : List Row) (n : Nat) : Prop := ∀ j < n, Row.lab (j : Int) ∈ B
noncomputable def ChAt (B : List Row) (w : Int) (n : Nat) (c : Int × List Nat) : Prop := 2 ≤ c.2.length ∧ (∀ j ∈ c.2, j < n) ∧ (n : Int) ≤ c.1 ∧ ∃ pre r, B = pre ++ (chainSeg w c ++ r)
section
variable {B : List Row} {n : Nat} {w : Int} {key : Key} {cc : Nat}
theorem J_clause (h : ClAt B n) {j : Nat} (hj : j < n) {m : Nat} (hm : 1 ≤ m) : J B n w key cc j [(j : Int)] m := by
  obtain ⟨pre, r, e⟩ := List.append_of_mem (h j hj)
  exact .go (by omega) e (.clause (by omega) (by omega) hm)
noncomputable def trs (ps : List Nat) : List Tr := ps.map fun (j : Nat) => ((j : Int), [(j : Int)], 1)
theorem trs_fst (ps : List Nat) : (trs ps).map (·.1) = zs ps := List.map_map
theorem trs_outs (ps : List Nat) : outs (trs ps) = zs ps := by
  induction ps with
  | nil => rfl
  | cons p ps ih => exact congrArg ((p : Int) :: ·) ih
theorem trs_cost (ps : List Nat) : cost (trs ps) = 4 * ps.length := by
  induction ps with
  | nil => rfl
  | cons p ps ih => rw [List.length_cons, Nat.mul_succ, Nat.add_comm]; exact congrArg (4 + ·) ih
theorem chain_clauses {rest : List Row} (h : ClAt B n) {ps : List Nat} (h2 : 2 ≤ ps.length) (hp : ∀ j ∈ ps, j < n) : W B n w key 2 true (chainRows w (zs ps) ++ rest) (zs ps) (4 * ps.length) := by
  have := chain_W (B := B) (many := n) (wide := w) (key := key) (rest := rest) (ts := trs ps) (by unfold trs; rw [List.length_map]; exact h2) fun t ht => by
    obtain ⟨j, hj, rfl⟩ := List.mem_map.mp ht
    exact J_clause h (hp j hj) (Nat.le_refl _)
  rw [trs_fst, trs_outs, trs_cost] at this
  exact this
theorem J_chain (h : ClAt B n) {c : Int × List Nat} (hc : ChAt B w n c) : J B n w key 2 c.1 (zs c.2) (4 * c.2.length + 1) := by
  obtain ⟨h2, hp, hl, pre, r, e⟩ := hc
  exact .go (by omega) e (.lab hl (chain_clauses h h2 hp) (Nat.le_refl _))
theorem chainF_eq (st : Bst) {ps : List Nat} (h2 : 2 ≤ ps.length) : chainF st ps = match st.chains.find? fun c => decide (c.2 = ps) with
    | some c => (c.1, st)
    | none => (st.next, { st with chains := st.chains ++ [(st.next, ps)], next := st.next + 1 }) := by
  cases ps with
  | nil => exact absurd h2 (Nat.not_succ_le_zero 1)
  | cons p ps =>
    cases ps with
    | nil => exact absurd h2 (Nat.not_succ_le_self 1)
    | cons p' ps => rfl
theorem chainF_J (h : ClAt B n) {st : Bst} {ps : List Nat} (hc : ∀ c ∈ (chainF st ps).2.chains, ChAt B w n c) (hp : ∀ j ∈ ps, j < n) : J B n w key 2 (chainF st ps).1 (zs ps) (4 * ps.length + 1) := by
  by_cases h2 : 2 ≤ ps.length
  · rw [chainF_eq st h2] at hc ⊢
    cases hf : st.chains.find? fun c => decide (c.2 = ps) with
    | some c =>
      rw [hf] at hc
      have h3 := J_chain (key := key) h (hc c (List.mem_of_find?_eq_some hf))
      have h4 := List.find?_some hf
      rw [of_decide_eq_true h4] at h3
      exact h3
    | none =>
      rw [hf] at hc
      exact J_chain h (hc (st.next, ps) (List.mem_append_right _ (.head _)))
  · cases ps with
    | nil => exact .fail
    | cons p ps =>
      cases ps with
      | nil => exact J_clause h (hp p (.head _)) (Nat.le_add_left 1 4)
      | cons p' ps => exact absurd (Nat.le_add_left 2 ps.length) h2
end
noncomputable def Sub (st st' : Bst) : Prop := ∀ c ∈ st.chains, c ∈ st'.chains
theorem Sub.refl (st : Bst) : Sub st st := fun _ h => h
theorem Sub.trans {a b c : Bst} (x : Sub a b) (y : Sub b c) : Sub a c := fun _ h => y _ (x _ h)
theorem chainF_sub (st : Bst) (ps : List Nat) : Sub st (chainF st ps).2 := chainF_cases (Q := fun c => Sub st c.2) st ps (fun _ => .refl _) fun _ c hc => List.mem_append_left _ hc
theorem tab_fold (keys : List Key) (ps : List Nat) (k : Kind) : ∀ (qs : List Nat) (acc : List (Key × Int) × Bst),
    let res := qs.foldl (tabStep keys ps k) acc
    Sub acc.2 res.2 ∧ (∀ p ∈ acc.1, p ∈ res.1) ∧ (∀ p ∈ res.1, p ∈ acc.1 ∨ (p.1.kind = k ∧ p.1 ∈ keys ∧ ∃ st0, p.2 = (chainF st0 (mpl keys ps p.1)).1 ∧ Sub (chainF st0 (mpl keys ps p.1)).2 res.2)) ∧
      ∀ j ∈ qs, ∀ key, keys[j]? = some key → key.kind = k → key ∈ res.1.map (·.1) := by
  intro qs
  induction qs with
  | nil => exact fun acc => ⟨.refl _, fun _ h => h, fun _ h => .inl h, fun _ h => nomatch h⟩
  | cons j qs ih =>
    intro acc
    obtain ⟨i1, i2, i3, i4⟩ := ih (tabStep keys ps k acc j)
    dsimp only
    rw [List.foldl_cons]
    have step : (tabStep keys ps k acc j = acc ∧ ∀ key, keys[j]? = some key → key.kind = k → key ∈ acc.1.map (·.1)) ∨ ∃ key, keys[j]? = some key ∧ key.kind = k ∧ tabStep keys ps k acc j = (acc.1 ++ [(key, (chainF acc.2 (mpl keys ps key)).1)], (chainF acc.2 (mpl keys ps key)).2) := by
      unfold tabStep
      split
      · rename_i key hk
        split
        · rename_i h
          exact .inr ⟨key, hk, h.1, rfl⟩
        · rename_i h
          refine .inl ⟨rfl, fun key' e hk' => ?_⟩
          rw [hk] at e; cases e
          exact Classical.byContradiction fun hn => h ⟨hk', hn⟩
      · rename_i hk
        exact .inl ⟨rfl, fun key e => by rw [hk] at e; cases e⟩
    rcases step with ⟨e, hold⟩ | ⟨key, hk, hkk, e⟩
    · rw [e] at i1 i2 i3 i4 ⊢
      refine ⟨i1, i2, i3, fun j' hj' key hk hkk => ?_⟩
      rcases List.mem_cons.mp hj' with rfl | hj'
      · obtain ⟨p, hp, rfl⟩ := List.mem_map.mp (hold key hk hkk)
        exact List.mem_map.mpr ⟨p, i2 p hp, rfl⟩
      · exact i4 j' hj' key hk hkk
    · rw [e] at i1 i2 i3 i4 ⊢
      refine ⟨(chainF_sub _ _).trans i1, fun p hp => i2 p (List.mem_append_left _ hp), fun p hp => ?_, fun j' hj' key' hk' hkk' => ?_⟩
      · rcases i3 p hp with h | h
        · rcases List.mem_append.mp h with h | h
          · exact .inl h
          · rw [List.mem_singleton] at h
            subst h
            exact .inr ⟨hkk, List.mem_of_getElem? hk, acc.2, rfl, i1⟩
        · exact .inr h
      · rcases List.mem_cons.mp hj' with rfl | hj'
        · rw [hk] at hk'; cases hk'
          exact List.mem_map.mpr ⟨_, i2 _ (List.mem_append_right _ (List.mem_singleton.mpr rfl)), rfl⟩
        · exact i4 j' hj' key' hk' hkk'
theorem tableF_sub (keys : List Key) (ps : List Nat) (k : Kind) (st : Bst) : Sub st (tableF keys ps k st).2 := (tab_fold keys ps k ps ([], st)).1
theorem tableF_pairs {keys : List Key} {ps : List Nat} {k : Kind} {st : Bst} : ∀ p ∈ (tableF keys ps k st).1, p.1.kind = k ∧ p.1 ∈ keys ∧ ∃ st0, p.2 = (chainF st0 (mpl keys ps p.1)).1 ∧ Sub (chainF st0 (mpl keys ps p.1)).2 (tableF keys ps k st).2 := fun p hp => by
  rcases (tab_fold keys ps k ps ([], st)).2.2.1 p hp with h | h
  · cases h
  · exact h
theorem tableF_all_in {keys : List Key} {ps : List Nat} {k : Kind} {st : Bst} : ∀ j ∈ ps, ∀ key, keys[j]? = some key → key.kind = k → key ∈ (tableF keys ps k st).1.map (·.1) := (tab_fold keys ps k ps ([], st)).2.2.2
/-! the labels of a builder -/
noncomputable def allL (P : List Int) (st : Bst) : List Int := P ++ (labs st.rows ++ st.chains.map (·.1))
structure LI (n : Nat) (P : List Int) (st : Bst) : Prop where
  nd : (allL P st).Nodup
  rg : ∀ l ∈ allL P st, (n : Int) ≤ l ∧ l < st.next
  nx : (n : Int) ≤ st.next
  ch : ∀ c ∈ st.chains, 2 ≤ c.2.length ∧ ∀ j ∈ c.2, j < n
section
variable {n : Nat} {P P' : List Int} {st : Bst} {keys : List Key} {ps : List Nat} {k : Kind}
theorem LI.perm (x : LI n P st) (h : P.Perm P') : LI n P' st := by
  have hp : (allL P st).Perm (allL P' st) := h.append_right _
  exact ⟨hp.nodup_iff.mp x.nd, fun l hl => x.rg l (hp.mem_iff.mpr hl), x.nx, x.ch⟩
theorem chainF_LI (x : LI n P st) (hp : ∀ j ∈ ps, j < n) : LI n P (chainF st ps).2 := by
  refine chainF_cases (Q := fun c => LI n P c.2) st ps (fun _ => x) fun h2 => ?_
  have e : allL P { st with chains := st.chains ++ [(st.next, ps)], next := st.next + 1 } = allL P st ++ [st.next] := by
    unfold allL
    rw [List.map_append, ← List.append_assoc (labs st.rows), ← List.append_assoc P]
    rfl
  have lt := Int.lt_succ st.next
  refine ⟨?_, fun l hl => ?_, Int.le_trans x.nx (Int.le_of_lt lt), fun c hc => (List.mem_append.mp hc).elim (x.ch c) fun hc => List.mem_singleton.mp hc ▸ ⟨h2, hp⟩⟩
  · rw [e, List.nodup_append]
    exact ⟨x.nd, List.pairwise_singleton _ _, fun a ha b hb => List.mem_singleton.mp hb ▸ Int.ne_of_lt (x.rg a ha).2⟩
  · rw [e] at hl
    rcases List.mem_append.mp hl with hl | hl
    · exact ⟨(x.rg l hl).1, Int.lt_trans (x.rg l hl).2 lt⟩
    · rw [List.mem_singleton.mp hl]; exact ⟨x.nx, lt⟩
theorem tableF_LI (x : LI n P st) (hp : ∀ j ∈ ps, j < n) : LI n P (tableF keys ps k st).2 := tableF_ind (Q := LI n P) (fun _ _ h => chainF_LI h fun j hj => hp j (List.mem_filter.mp hj).1) x
noncomputable def pend (tb : List (Key × Int)) (l : Int) : List Int := if tb = [] then [] else [l]
theorem fresh_LI (x : LI n P st) : LI n (st.next :: P) { st with next := st.next + 1 } :=
  have lt := Int.lt_succ st.next
  ⟨List.nodup_cons.mpr ⟨fun h => Int.lt_irrefl _ (x.rg _ h).2, x.nd⟩, fun l hl => (List.mem_cons.mp hl).elim (fun (e : l = st.next) => by rw [e]; exact ⟨x.nx, lt⟩) fun hl => ⟨(x.rg l hl).1, Int.lt_trans (x.rg l hl).2 lt⟩, Int.le_trans x.nx (Int.le_of_lt lt), x.ch⟩
theorem freshIf_LI (x : LI n P st) (tb : List (Key × Int)) (d : Int) : LI n (pend tb (freshIf tb d st).1 ++ P) (freshIf tb d st).2 := by
  unfold freshIf pend
  split
  · exact x
  · exact fresh_LI x
theorem emit_LI {row : List Row} (x : LI n (labs row ++ P) st) : LI n P { st with rows := st.rows ++ row } := by
  have hp : (allL (labs row ++ P) st).Perm (allL P { st with rows := st.rows ++ row }) := by
    unfold allL
    rw [labs_append]
    refine (List.Perm.append_right _ List.perm_append_comm).trans ?_
    rw [List.append_assoc]
    refine List.Perm.append_left _ ?_
    rw [← List.append_assoc]
    exact List.Perm.append_right _ List.perm_append_comm
  exact ⟨hp.nodup_iff.mp x.nd, fun l hl => x.rg l (hp.mem_iff.mpr hl), x.nx, x.ch⟩
theorem freshIf_sub (tb : List (Key × Int)) (d : Int) (st : Bst) : Sub st (freshIf tb d st).2 := by
  unfold freshIf; split <;> exact fun _ h => h
theorem labs_tab (tb : List (Key × Int)) (l : Int) (k : Kind) (d : Int) : labs (tabRows tb l k d) = pend tb l := by
  unfold tabRows pend; split <;> rfl
theorem labs_sw (keys : List Key) (ps : List Nat) (st : Bst) : labs (swRows keys ps st) = pend (swB keys ps st).1 (swD keys ps st).1 ++ pend (swC keys ps st).1 (swE keys ps st).1 := by
  unfold swRows
  rw [labs_cons, labs_append, labs_tab, labs_tab]
  rfl
theorem sw_sub (keys : List Key) (ps : List Nat) (st : Bst) : Sub st (swA keys ps st).2 ∧ Sub (swA keys ps st).2 (swB keys ps st).2 ∧ Sub (swB keys ps st).2 (swC keys ps st).2 ∧ Sub (swC keys ps st).2 (swF keys ps st).2 ∧ Sub (swF keys ps st).2 (swG keys ps st).2 ∧ Sub (swG keys ps st).2 (switchF keys ps st) :=
  ⟨chainF_sub _ _, tableF_sub _ _ _ _, tableF_sub _ _ _ _, (freshIf_sub _ _ _).trans ((freshIf_sub _ _ _).trans (chainF_sub _ _)), chainF_sub _ _, fun _ h => h⟩
theorem mpl_in {key : Key} (hp : ∀ j ∈ ps, j < n) : ∀ j ∈ mpl keys ps key, j < n := fun j hj => hp j (List.mem_filter.mp hj).1
theorem vpl_in (hp : ∀ j ∈ ps, j < n) : ∀ j ∈ vpl keys ps, j < n := fun j hj => hp j (List.mem_filter.mp hj).1
theorem switch_LI0 (x : LI n P st) (hp : ∀ j ∈ ps, j < n) : LI n (pend (swC keys ps st).1 (swE keys ps st).1 ++ (pend (swB keys ps st).1 (swD keys ps st).1 ++ P)) (swG keys ps st).2 :=
  chainF_LI (chainF_LI (freshIf_LI (freshIf_LI (tableF_LI (tableF_LI (chainF_LI x (vpl_in hp)) hp) hp) _ _) _ _) (mpl_in hp)) hp
theorem switch_LI (x : LI n P st) (hp : ∀ j ∈ ps, j < n) : LI n P (switchF keys ps st) := by
  have h := switch_LI0 (keys := keys) x hp
  refine emit_LI (st := (swG keys ps st).2) (row := swRows keys ps st) ?_
  rw [labs_sw]
  refine h.perm ?_
  rw [← List.append_assoc]
  exact List.Perm.append_right _ List.perm_append_comm
end
/-! a switch -/
theorem lk_miss {key : Key} {d : Int} {ps : List (Key × Int)} : key ∉ ps.map (·.1) → look key d ps = d := by
  induction ps with
  | nil => exact fun _ => rfl
  | cons p ps ih => exact fun h => (if_neg fun (e : p.1 = key) => h (e ▸ .head _)).trans (ih fun hm => h (.tail _ hm))
theorem lk_hit {key : Key} {d : Int} {ps : List (Key × Int)} : key ∈ ps.map (·.1) → ∃ p ∈ ps, p.1 = key ∧ look key d ps = p.2 := by
  induction ps with
  | nil => exact fun h => nomatch h
  | cons p ps ih =>
    intro h
    by_cases e : p.1 = key
    · exact ⟨p, List.mem_cons_self, e, if_pos e⟩
    · obtain ⟨q, hq, h1, h2⟩ := ih ((List.mem_cons.mp h).resolve_left fun z => e z.symm)
      exact ⟨q, List.mem_cons_of_mem _ hq, h1, (if_neg e).trans h2⟩
theorem mpl_vpl {keys : List Key} {ps : List Nat} {key : Key} (hv : key ≠ .var) (h : ∀ j ∈ ps, keys[j]? ≠ some key) : mpl keys ps key = vpl keys ps := by
  unfold mpl vpl
  refine List.filter_congr fun j hj => ?_
  have := h j hj
  cases hk : keys[j]? with
  | none => rfl
  | some k =>
    rw [hk] at this
    have hne : k ≠ key := fun e => this (by rw [e])
    simp [mat, hv, hne]
theorem mpl_var {keys : List Key} {ps : List Nat} (h : ∀ j ∈ ps, j < keys.length) : mpl keys ps .var = ps := by
  unfold mpl
  refine List.filter_eq_self.mpr fun j hj => ?_
  rw [List.getElem?_eq_getElem (h j hj)]
  simp [mat]
section
variable {B : List Row} {n : Nat} {w : Int} {keys : List Key} {ps : List Nat} {st : Bst} {P : List Int}
/-- what a table's label comes to -/
theorem tab_W {k : Kind} {st0 : Bst} {l d : Int} {pre r : List Row} {key : Key} (hcl : ClAt B n) (hp : ∀ j ∈ ps, j < n) (hc : ∀ c ∈ (tableF keys ps k st0).2.chains, ChAt B w n c) (ht : tabl k) (hk : key.kind = k)
    (hd : J B n w key 2 d (zs (vpl keys ps)) (4 * ps.length + 1)) (hl : (n : Int) ≤ l) (hB : B = pre ++ (tabRows (tableF keys ps k st0).1 l k d ++ r)) :
    J B n w key 2 (if (tableF keys ps k st0).1 = [] then d else l) (zs (mpl keys ps key)) (4 * ps.length + 4) := by
  have hv : key ≠ .var := fun e => by subst e; subst hk; rcases ht with h | h <;> cases h
  have miss : key ∉ (tableF keys ps k st0).1.map (·.1) → mpl keys ps key = vpl keys ps := fun hm => mpl_vpl hv fun j hj e => hm (tableF_all_in j hj key e hk)
  by_cases he : (tableF keys ps k st0).1 = []
  · rw [if_pos he, miss (by rw [he]; simp)]
    exact hd.mono (by omega)
  · rw [if_neg he]
    rw [tabRows, if_neg he] at hB
    have pairJ : ∀ p ∈ (tableF keys ps k st0).1, J B n w key 2 p.2 (zs (mpl keys ps p.1)) (4 * ps.length + 1) := fun p hp1 => by
      obtain ⟨_, _, st1, e, hs⟩ := tableF_pairs p hp1
      rw [e]
      refine (chainF_J hcl (fun c h => hc c (hs c h)) (mpl_in hp)).mono ?_
      have := mpl_le keys ps p.1
      omega
    refine .go (by omega) hB (.lab hl (sw_W (n := 4 * ps.length + 3) ⟨hk, ht, fun p hp1 => (tableF_pairs p hp1).1⟩ (fun p hp1 => ⟨_, pairJ p hp1⟩) ⟨_, hd⟩ ?_ (Nat.le_refl _)) (by omega))
    by_cases hm : key ∈ (tableF keys ps k st0).1.map (·.1)
    · obtain ⟨p, hp1, e1, e2⟩ := lk_hit (d := d) hm
      rw [e2, ← e1]
      have := pairJ p hp1
      rw [e1] at this ⊢
      exact this
    · rw [lk_miss hm, miss hm]
      exact hd
theorem freshIf_fst (tb : List (Key × Int)) (d : Int) (st : Bst) : (if tb = [] then d else (freshIf tb d st).1) = (freshIf tb d st).1 := by
  unfold freshIf; split <;> rfl
theorem swD_fst (keys : List Key) (ps : List Nat) (st : Bst) : (if (swB keys ps st).1 = [] then (swA keys ps st).1 else (swD keys ps st).1) = (swD keys ps st).1 := freshIf_fst _ _ _
theorem swE_fst (keys : List Key) (ps : List Nat) (st : Bst) : (if (swC keys ps st).1 = [] then (swA keys ps st).1 else (swE keys ps st).1) = (swE keys ps st).1 := freshIf_fst _ _ _
theorem switch_W {pre r : List Row} (hcl : ClAt B n) (hn : n = keys.length) (hp : ∀ j ∈ ps, j < n) (x : LI n P st) (hc : ∀ c ∈ (switchF keys ps st).chains, ChAt B w n c) (hB : B = pre ++ (swRows keys ps st ++ r)) (key : Key) :
    W B n w key 2 true (swRows keys ps st ++ r) (zs (mpl keys ps key)) (4 * ps.length + 6) := by
  obtain ⟨s1, s2, s3, s4, s5, s6⟩ := sw_sub keys ps st
  have L := switch_LI0 (keys := keys) x hp
  have hd : J B n w key 2 (swA keys ps st).1 (zs (vpl keys ps)) (4 * ps.length + 1) := by
    refine (chainF_J hcl (fun c h => hc c (s6 c (s5 c (s4 c (s3 c (s2 c h)))))) (vpl_in hp)).mono ?_
    have := vpl_le keys ps
    omega
  have hcB : ∀ c ∈ (swB keys ps st).2.chains, ChAt B w n c := fun c h => hc c (s6 c (s5 c (s4 c (s3 c h))))
  have hcC : ∀ c ∈ (swC keys ps st).2.chains, ChAt B w n c := fun c h => hc c (s6 c (s5 c (s4 c h)))
  have hcF : ∀ c ∈ (swF keys ps st).2.chains, ChAt B w n c := fun c h => hc c (s6 c (s5 c h))
  have hcG : ∀ c ∈ (swG keys ps st).2.chains, ChAt B w n c := fun c h => hc c (s6 c h)
  have lD : (swB keys ps st).1 ≠ [] → (n : Int) ≤ (swD keys ps st).1 := fun h => (L.rg _ (by simp [allL, pend, h])).1
  have lE : (swC keys ps st).1 ≠ [] → (n : Int) ≤ (swE keys ps st).1 := fun h => (L.rg _ (by simp [allL, pend, h])).1
  have hB' := hB
  unfold swRows at hB ⊢
  refine .swt (n1 := 4 * ps.length + 4) ?_ (by omega)
  cases hk : key.kind with
  | var =>
    have : key = .var := by cases key <;> cases hk; rfl
    subst this
    simp only [sel, hk]
    rw [mpl_var (by rw [← hn]; exact hp)]
    exact (chainF_J hcl hcG hp).mono (by omega)
  | list =>
    have : key = .list := by cases key <;> cases hk; rfl
    subst this
    simp only [sel, hk]
    refine (chainF_J hcl hcF (mpl_in hp)).mono ?_
    have := mpl_le keys ps .list
    omega
  | co =>
    simp only [sel, hk]
    rw [← swD_fst]
    by_cases he : (swB keys ps st).1 = []
    · have hB2 : B = ([] : List Row) ++ (tabRows (tableF keys ps .co (swA keys ps st).2).1 n .co (swA keys ps st).1 ++ B) := by
        change B = [] ++ (tabRows (swB keys ps st).1 n .co (swA keys ps st).1 ++ B)
        rw [he]; simp [tabRows]
      have := tab_W (k := .co) hcl hp hcB (.inl rfl) hk hd (Int.le_refl _) hB2
      change J B n w key 2 (if (swB keys ps st).1 = [] then (swA keys ps st).1 else _) _ _ at this
      rw [if_pos he] at this ⊢
      exact this
    · refine tab_W (k := .co) (pre := pre ++ [.swt (swG keys ps st).1 (swD keys ps st).1 (swF keys ps st).1 (swE keys ps st).1]) (r := tabRows (swC keys ps st).1 (swE keys ps st).1 .st (swA keys ps st).1 ++ r) hcl hp hcB (.inl rfl) hk hd (lD he) ?_
      rw [hB]
      simp [swB]
  | st =>
    simp only [sel, hk]
    rw [← swE_fst]
    by_cases he : (swC keys ps st).1 = []
    · have hB2 : B = ([] : List Row) ++ (tabRows (tableF keys ps .st (swB keys ps st).2).1 n .st (swA keys ps st).1 ++ B) := by
        change B = [] ++ (tabRows (swC keys ps st).1 n .st (swA keys ps st).1 ++ B)
        rw [he]; simp [tabRows]
      have := tab_W (k := .st) hcl hp hcC (.inr rfl) hk hd (Int.le_refl _) hB2
      change J B n w key 2 (if (swC keys ps st).1 = [] then (swA keys ps st).1 else _) _ _ at this
      rw [if_pos he] at this ⊢
      exact this
    · refine tab_W (k := .st) (pre := pre ++ .swt (swG keys ps st).1 (swD keys ps st).1 (swF keys ps st).1 (swE keys ps st).1 :: tabRows (swB keys ps st).1 (swD keys ps st).1 .co (swA keys ps st).1) (r := r) hcl hp hcC (.inr rfl) hk hd (lE he) ?_
      rw [hB]
      simp [swC]
end
noncomputable def RowOk (keys : List Key) : Row → Prop
  | .sw k ps _ => (tabl k ∧ ps ≠ [] ∧ ∀ p ∈ ps, p.1 ∈ keys ∧ p.1.kind = k) ∧ ps.length < 100
  | .getc _ => False
  | .proceed => False
  | _ => True
structure Snd (keys : List Key) (w : Int) (B : List Row) (vis : Key → List Int) : Prop where
  W : ∀ key, W B keys.length w key 2 true B (vis key) 100
  nd : (labs B).Nodup
  cl : ClAt B keys.length
  top : ∃ hd tl, B = hd ++ .lab 0 :: tl ∧ (∀ r ∈ hd, r ≠ .lab 0 ∧ RowOk keys r) ∧ (∃ r ∈ hd, labOf r = none) ∧ ∀ r ∈ tl, ∀ k ps d, r ≠ .sw k ps d
  len : B.length < 40000
section
variable {w : Int} {keys : List Key} {st : Bst}
theorem labs_chainRows (w : Int) (ls : List Int) : labs (chainRows w ls) = [] := by
  have : ∀ ls : List Int, labs (chTail ls) = [] := by
    intro ls
    induction ls with
    | nil => rfl
    | cons l ls ih =>
      cases ls with
      | nil => rfl
      | cons l' ls => rw [chTail, labs_cons, ih]; rfl
  cases ls with
  | nil => rfl
  | cons l ls => rw [chainRows, labs_cons, this]; rfl
theorem ok_chainRows (w : Int) (ls : List Int) : ∀ r ∈ chainRows w ls, RowOk keys r := by
  have : ∀ ls : List Int, ∀ r ∈ chTail ls, RowOk keys r := by
    intro ls
    induction ls with
    | nil => intro r h; cases h
    | cons l ls ih =>
      cases ls with
      | nil => intro r h; simp [chTail] at h; subst h; trivial
      | cons l' ls =>
        intro r h
        rw [chTail] at h
        rcases List.mem_cons.mp h with rfl | h
        · trivial
        · exact ih r h
  cases ls with
  | nil => intro r h; cases h
  | cons l ls =>
    intro r h
    rw [chainRows] at h
    rcases List.mem_cons.mp h with rfl | h
    · trivial
    · exact this ls r h
theorem labs_chains (w : Int) (cs : List (Int × List Nat)) : labs (cs.flatMap (chainSeg w)) = cs.map (·.1) := by
  induction cs with
  | nil => rfl
  | cons c cs ih =>
    rw [List.flatMap_cons, labs_append, ih, chainSeg, labs_cons, labs_chainRows]; rfl
theorem labs_clauses (ps : List Nat) : labs (ps.flatMap clauseSeg) = zs ps := by
  induction ps with
  | nil => rfl
  | cons c cs ih => rw [List.flatMap_cons, labs_append, ih]; rfl
theorem labs_fin : labs (finRows w keys st) = labs st.rows ++ st.chains.map (·.1) ++ zs (List.range keys.length) := by
  unfold finRows
  rw [labs_append, labs_append, labs_chains, labs_clauses]
theorem zs_range {n : Nat} {l : Int} : l ∈ zs (List.range n) ↔ 0 ≤ l ∧ l < n := by
  unfold zs
  rw [List.mem_map]
  constructor
  · rintro ⟨j, hj, rfl⟩
    rw [List.mem_range] at hj
    omega
  · rintro ⟨h0, h1⟩
    exact ⟨l.toNat, List.mem_range.mpr (by omega), by omega⟩
theorem zs_nodup {ps : List Nat} (h : ps.Nodup) : (zs ps).Nodup := by
  unfold zs
  rw [List.nodup_iff_pairwise_ne, List.pairwise_map]
  exact h.imp fun hne e => hne (by omega)
theorem fin_nd (x : LI keys.length [] st) : (labs (finRows w keys st)).Nodup := by
  rw [labs_fin]
  have hall : allL [] st = labs st.rows ++ st.chains.map (·.1) := by simp [allL]
  have h1 := x.nd
  rw [hall] at h1
  rw [List.nodup_append]
  refine ⟨h1, zs_nodup List.nodup_range, fun a ha b hb => ?_⟩
  have := x.rg a (by rw [hall]; exact ha)
  rw [zs_range] at hb
  omega
theorem fin_cl : ClAt (finRows w keys st) keys.length := fun j hj => by
  rw [← mem_labs, labs_fin]
  exact List.mem_append_right _ (zs_range.mpr ⟨by omega, by omega⟩)
theorem fin_ch (x : LI keys.length [] st) : ∀ c ∈ st.chains, ChAt (finRows w keys st) w keys.length c := fun c hc => by
  obtain ⟨h1, h2⟩ := x.ch c hc
  refine ⟨h1, h2, (x.rg c.1 (by simp only [allL, List.nil_append]; exact List.mem_append_right _ (List.mem_map.mpr ⟨c, hc, rfl⟩))).1, ?_⟩
  obtain ⟨a, b, e⟩ := List.append_of_mem hc
  refine ⟨st.rows ++ a.flatMap (chainSeg w), b.flatMap (chainSeg w) ++ (List.range keys.length).flatMap clauseSeg, ?_⟩
  unfold finRows
  rw [e]
  simp [List.append_assoc]
theorem fin_top (x : LI keys.length [] st) (h2 : 2 ≤ keys.length) (ok : ∀ r ∈ st.rows, RowOk keys r) (h0 : ∃ r ∈ st.rows, labOf r = none) :
    ∃ hd tl, finRows w keys st = hd ++ .lab 0 :: tl ∧ (∀ r ∈ hd, r ≠ .lab 0 ∧ RowOk keys r) ∧ (∃ r ∈ hd, labOf r = none) ∧ ∀ r ∈ tl, ∀ k ps d, r ≠ .sw k ps d := by
  obtain ⟨n, hn⟩ : ∃ n, keys.length = n + 1 := ⟨keys.length - 1, by omega⟩
  have hr : (List.range keys.length).flatMap clauseSeg = .lab 0 :: (.getc 0 :: .proceed :: ((List.range n).map Nat.succ).flatMap clauseSeg) := by
    rw [hn, List.range_succ_eq_map, List.flatMap_cons]; rfl
  refine ⟨st.rows ++ st.chains.flatMap (chainSeg w), .getc 0 :: .proceed :: ((List.range n).map Nat.succ).flatMap clauseSeg, ?_, fun r hr => ⟨fun e => ?_, ?_⟩, ?_, fun r hr k ps d e => ?_⟩
  · unfold finRows; rw [hr]
  · subst e
    have : (0 : Int) ∈ allL [] st := by
      rw [← mem_labs, labs_append, labs_chains] at hr
      simpa [allL] using hr
    have := x.rg _ this
    omega
  · rcases List.mem_append.mp hr with hr | hr
    · exact ok r hr
    · obtain ⟨c, hc, hr⟩ := List.mem_flatMap.mp hr
      rw [chainSeg] at hr
      rcases List.mem_cons.mp hr with rfl | hr
      · trivial
      · exact ok_chainRows _ _ r hr
  · obtain ⟨r, hr, e⟩ := h0
    exact ⟨r, List.mem_append_left _ hr, e⟩
  · subst e
    rcases List.mem_cons.mp hr with h | hr
    · cases h
    · rcases List.mem_cons.mp hr with h | hr
      · cases h
      · obtain ⟨j, hj, hr⟩ := List.mem_flatMap.mp hr
        simp [clauseSeg] at hr
theorem ok_tab {ps : List Nat} {k : Kind} {st0 : Bst} {l d : Int} (hl : ps.length < 100) (ht : tabl k) : ∀ r ∈ tabRows (tableF keys ps k st0).1 l k d, RowOk keys r := by
  unfold tabRows
  split
  · intro r h; cases h
  · rename_i hne
    intro r h
    simp only [List.mem_cons, List.not_mem_nil, or_false] at h
    rcases h with rfl | rfl
    · trivial
    · exact ⟨⟨ht, hne, fun p hp => ⟨(tableF_pairs p hp).2.1, (tableF_pairs p hp).1⟩⟩, Nat.lt_of_le_of_lt (tableF_len keys ps k st0).1 hl⟩
theorem ok_sw (keys : List Key) (ps : List Nat) (st : Bst) (hl : ps.length < 100) : ∀ r ∈ swRows keys ps st, RowOk keys r := by
  intro r h
  unfold swRows at h
  rcases List.mem_cons.mp h with rfl | h
  · trivial
  · rcases List.mem_append.mp h with h | h
    · exact ok_tab hl (.inl rfl) r h
    · exact ok_tab hl (.inr rfl) r h
/-! the three blocks -/
theorem LI0 (rows : List Row) (h : labs rows = []) : LI keys.length [] ⟨rows, [], keys.length⟩ :=
  ⟨by simp [allL, h], by simp [allL, h], Int.le_refl _, fun c hc => nomatch hc⟩
theorem mpl_range (keys : List Key) (key : Key) : mpl keys (List.range keys.length) key = cand keys key := rfl
theorem chain_snd (h2 : 2 ≤ keys.length) (h6 : keys.length ≤ 6) : Snd keys w (chainBlock w keys) fun _ => zs (List.range keys.length) := by
  have hl : labs (chainRows w (zs (List.range keys.length))) = [] := labs_chainRows _ _
  have x := LI0 (keys := keys) (chainRows w (zs (List.range keys.length))) hl
  refine ⟨fun key => ?_, fin_nd x, fin_cl, ?_, ?_⟩
  · have := chain_clauses (key := key) (w := w) (rest := ([] : List (Int × List Nat)).flatMap (chainSeg w) ++ (List.range keys.length).flatMap clauseSeg) (fin_cl (w := w) (keys := keys) (st := ⟨chainRows w (zs (List.range keys.length)), [], keys.length⟩)) (ps := List.range keys.length) (by simpa using h2) (fun j hj => by simpa using hj)
    rw [← List.append_assoc] at this
    exact this.mono (by simp; omega)
  · refine fin_top x h2 (ok_chainRows _ _) ?_
    obtain ⟨n, hn⟩ : ∃ n, keys.length = n + 1 := ⟨keys.length - 1, by omega⟩
    rw [hn, List.range_succ_eq_map]
    exact ⟨_, List.mem_cons_self, rfl⟩
  · have := fin_len (a := w) (keys := keys) (st := ⟨chainRows w (zs (List.range keys.length)), [], keys.length⟩) (fun p hp => nomatch hp)
    have h3 : (chainRows w (zs (List.range keys.length))).length = keys.length := by rw [few_rows]; simp [zs]
    unfold chainBlock
    simp only [List.length_nil] at this
    omega
theorem index_snd (h2 : 2 ≤ keys.length) (h6 : keys.length ≤ 6) : ∃ vis, Snd keys w (indexBlock w keys) vis ∧ ∀ key, vis key = zs (cand keys key) := by
  unfold indexBlock
  split
  · rename_i hall
    refine ⟨_, chain_snd h2 h6, fun key => ?_⟩
    show zs (List.range keys.length) = zs (cand keys key)
    congr 1
    unfold cand mpl
    symm
    refine List.filter_eq_self.mpr fun j hj => ?_
    rw [List.mem_range] at hj
    rw [List.getElem?_eq_getElem hj]
    have := List.all_eq_true.mp hall _ (List.getElem_mem hj)
    simp only [decide_eq_true_eq] at this
    simp [mat, this]
  · have hp : ∀ j ∈ List.range keys.length, j < keys.length := fun j hj => by simpa using hj
    have x0 : LI keys.length [] (b0 keys) := LI0 [] rfl
    have x := switch_LI (keys := keys) x0 hp
    have hrow : (switchF keys (List.range keys.length) (b0 keys)).rows = swRows keys (List.range keys.length) (b0 keys) := by
      unfold switchF
      dsimp only
      rw [swG_rows]; rfl
    refine ⟨fun key => zs (cand keys key), ⟨fun key => ?_, fin_nd x, fin_cl, fin_top x h2 (by rw [hrow]; exact ok_sw _ _ _ (by simp; omega)) (by rw [hrow]; exact ⟨_, List.mem_cons_self, rfl⟩), ?_⟩, fun _ => rfl⟩
    · have hB : finRows w keys (switchF keys (List.range keys.length) (b0 keys)) = ([] : List Row) ++ (swRows keys (List.range keys.length) (b0 keys) ++ ((switchF keys (List.range keys.length) (b0 keys)).chains.flatMap (chainSeg w) ++ (List.range keys.length).flatMap clauseSeg)) := by
        unfold finRows
        rw [hrow]
        simp
      have := switch_W (fin_cl (w := w)) rfl hp x0 (fin_ch (w := w) x) hB key
      rw [List.nil_append] at hB
      rw [← hB] at this
      exact this.mono (by simp; omega)
    · have hch := sw_chains (st := b0 keys) (keys := keys) (ps := List.range keys.length) (fun p hp => nomatch hp) (by simp; omega)
      have h3 := fin_len (a := w) (keys := keys) (st := switchF keys (List.range keys.length) (b0 keys)) fun p hp => (hch p hp).2
      have h4 := switchF_len keys (List.range keys.length) (b0 keys)
      simp only [b0, List.length_nil, List.length_range] at h4 h3
      show (finRows w keys (switchF keys (List.range keys.length) (b0 keys))).length < 40000
      simp only [b0]
      omega
end
noncomputable def pends (prs : List (List Nat × Int)) : List Int := (prs.filter fun p => decide (1 < p.1.length)).map (·.2)
theorem pends_cons (p : List Nat × Int) (prs : List (List Nat × Int)) : pends (p :: prs) = (if 1 < p.1.length then [p.2] else []) ++ pends prs := by
  unfold pends
  rw [List.filter_cons]
  by_cases h : 1 < p.1.length
  · simp [h]
  · simp [h]
section
variable {w : Int} {keys : List Key} {st : Bst}
theorem switch_rows (keys : List Key) (ps : List Nat) (st : Bst) : (switchF keys ps st).rows = st.rows ++ swRows keys ps st := by
  unfold switchF; dsimp only; rw [swG_rows]
theorem switch_sub (keys : List Key) (ps : List Nat) (st : Bst) : Sub st (switchF keys ps st) := by
  obtain ⟨s1, s2, s3, s4, s5, s6⟩ := sw_sub keys ps st
  exact s1.trans (s2.trans (s3.trans (s4.trans (s5.trans s6))))
theorem segs (n : Nat) : ∀ (prs : List (List Nat × Int)) (st : Bst), (∀ p ∈ prs, (∀ j ∈ p.1, j < n) ∧ p.1.length < 100) → LI n (pends prs) st →
    let st' := prs.foldl (segStep keys) st
    LI n [] st' ∧ Sub st st' ∧ (∃ t, st'.rows = st.rows ++ t ∧ ∀ r ∈ t, RowOk keys r) ∧
      ∀ p ∈ prs, 1 < p.1.length → ∃ pre st1 t P, st'.rows = pre ++ (.lab p.2 :: (swRows keys p.1 st1 ++ t)) ∧ LI n P st1 ∧ Sub (switchF keys p.1 st1) st'
  | [], st, _, x => ⟨x, .refl _, ⟨[], by simp, fun r h => by cases h⟩, fun p h => by cases h⟩
  | p :: prs, st, hp, x => by
    rw [List.foldl_cons]
    by_cases h1 : 1 < p.1.length
    · have e : segStep keys st p = switchF keys p.1 { st with rows := st.rows ++ [.lab p.2] } := by unfold segStep; rw [if_pos h1]
      rw [pends_cons, if_pos h1] at x
      have x1 : LI n (pends prs) { st with rows := st.rows ++ [.lab p.2] } := emit_LI (row := [.lab p.2]) x
      have hp1 := (hp p List.mem_cons_self).1
      obtain ⟨i1, i2, ⟨t, i3, i3'⟩, i4⟩ := segs n prs (segStep keys st p) (fun q hq => hp q (List.mem_cons_of_mem _ hq)) (by rw [e]; exact switch_LI x1 hp1)
      have er : (segStep keys st p).rows = st.rows ++ (.lab p.2 :: swRows keys p.1 { st with rows := st.rows ++ [.lab p.2] }) := by rw [e, switch_rows]; simp
      have es : Sub st (segStep keys st p) := by
        rw [e]
        have := switch_sub keys p.1 { st with rows := st.rows ++ [.lab p.2] }
        exact fun c hc => this c hc
      refine ⟨i1, es.trans i2, ⟨.lab p.2 :: swRows keys p.1 { st with rows := st.rows ++ [.lab p.2] } ++ t, by rw [i3, er]; simp, fun r hr => ?_⟩, fun q hq hq1 => ?_⟩
      · rcases List.mem_append.mp hr with hr | hr
        · rcases List.mem_cons.mp hr with rfl | hr
          · trivial
          · exact ok_sw _ _ _ (hp p List.mem_cons_self).2 r hr
        · exact i3' r hr
      · rcases List.mem_cons.mp hq with rfl | hq
        · refine ⟨st.rows, { st with rows := st.rows ++ [.lab q.2] }, t, _, by rw [i3, er]; simp, x1, by rw [← e]; exact i2⟩
        · exact i4 q hq hq1
    · have e : segStep keys st p = st := by unfold segStep; rw [if_neg h1]
      rw [pends_cons, if_neg h1, List.nil_append] at x
      rw [e]
      obtain ⟨i1, i2, i3, i4⟩ := segs n prs st (fun q hq => hp q (List.mem_cons_of_mem _ hq)) x
      refine ⟨i1, i2, i3, fun q hq hq1 => ?_⟩
      rcases List.mem_cons.mp hq with rfl | hq
      · exact absurd hq1 h1
      · exact i4 q hq hq1
theorem labs_zip : ∀ (gs : List (List Nat)) (acc : List Int × Int), (∀ g ∈ gs, g ≠ []) →
    ∃ ls, (gs.foldl labStep acc).1 = acc.1 ++ ls ∧ ls.length = gs.length ∧ acc.2 ≤ (gs.foldl labStep acc).2 ∧ (∀ q ∈ gs.zip ls, q.1.length = 1 → ∃ p : Nat, q.1 = [p] ∧ q.2 = p) ∧ (pends (gs.zip ls)).Nodup ∧ ∀ l ∈ pends (gs.zip ls), acc.2 ≤ l ∧ l < (gs.foldl labStep acc).2
  | [], acc, _ => ⟨[], by simp, rfl, Int.le_refl _, (fun q h => nomatch h), List.nodup_nil, (fun l h => nomatch h)⟩
  | g :: gs, acc, hne => by
    have hg := hne g List.mem_cons_self
    obtain ⟨ls, i1, i2, i3, i4, i5, i6⟩ := labs_zip gs (labStep acc g) fun g h => hne g (List.mem_cons_of_mem _ h)
    rw [List.foldl_cons]
    match g, hg with
    | [p], _ =>
      refine ⟨(p : Int) :: ls, ?_, by simp [i2], i3, fun q hq h1 => ?_, ?_, fun l hl => ?_⟩
      · rw [i1]; simp [labStep]
      · rw [List.zip_cons_cons] at hq
        rcases List.mem_cons.mp hq with rfl | hq
        · exact ⟨p, rfl, rfl⟩
        · exact i4 q hq h1
      · rw [List.zip_cons_cons, pends_cons, if_neg (by simp)]; exact i5
      · rw [List.zip_cons_cons, pends_cons, if_neg (by simp)] at hl
        exact i6 l hl
    | p :: p2 :: r, _ =>
      have e2 : (labStep acc (p :: p2 :: r)).2 = acc.2 + 1 := rfl
      rw [e2] at i3 i6
      refine ⟨acc.2 :: ls, ?_, by simp [i2], by omega, fun q hq h1 => ?_, ?_, fun l hl => ?_⟩
      · rw [i1]; simp [labStep]
      · rw [List.zip_cons_cons] at hq
        rcases List.mem_cons.mp hq with rfl | hq
        · simp at h1
        · exact i4 q hq h1
      · rw [List.zip_cons_cons, pends_cons, if_pos (by simp)]
        refine List.nodup_cons.mpr ⟨fun h => ?_, i5⟩
        have := i6 _ h
        omega
      · rw [List.zip_cons_cons, pends_cons, if_pos (by simp)] at hl
        rcases List.mem_append.mp hl with hl | hl
        · rw [List.mem_singleton] at hl
          subst hl
          show _ ∧ acc.2 < _
          omega
        · have := i6 l hl; omega
noncomputable def outG (keys : List Key) (key : Key) (g : List Nat) : List Int := if g.length = 1 then zs g else zs (mpl keys g key)
theorem filter_zs (keys : List Key) (key : Key) (ps : List Nat) : (zs ps).filter (matAt keys key) = zs (mpl keys ps key) := by
  unfold zs mpl
  rw [List.filter_map]
  congr 1
theorem filter_mpl (keys : List Key) (key : Key) (ps : List Nat) : mpl keys (mpl keys ps key) key = mpl keys ps key := by
  unfold mpl
  rw [List.filter_filter]
  refine List.filter_congr fun j _ => ?_
  simp
theorem filter_outG (keys : List Key) (key : Key) (gs : List (List Nat)) : (gs.flatMap (outG keys key)).filter (matAt keys key) = zs (mpl keys gs.flatten key) := by
  induction gs with
  | nil => rfl
  | cons g gs ih =>
    rw [List.flatMap_cons, List.filter_append, ih, List.flatten_cons]
    have h1 : (outG keys key g).filter (matAt keys key) = zs (mpl keys g key) := by
      unfold outG
      split
      · exact filter_zs _ _ _
      · rw [filter_zs, filter_mpl]
    rw [h1]
    unfold mpl zs
    rw [List.filter_append, List.map_append]
theorem group_snd (h2 : 2 ≤ keys.length) (h6 : keys.length ≤ 6) : ∃ vis, Snd keys w (groupBlock w keys) vis ∧ ∀ key, (vis key).filter (matAt keys key) = zs (cand keys key) := by
  unfold groupBlock
  obtain ⟨gf, gne⟩ := groups_facts keys
  split
  · rename_i hall
    refine ⟨_, chain_snd h2 h6, fun key => ?_⟩
    rw [filter_zs, mpl_range]
  · rename_i hall
    split
    · rename_i g hg
      have hgr : g = List.range keys.length := by rw [hg] at gf; simpa using gf
      obtain ⟨vis, hv, hc⟩ := index_snd (w := w) h2 h6
      refine ⟨vis, ?_, fun key => ?_⟩
      · unfold indexBlock at hv
        rw [if_neg hall] at hv
        rw [hgr]
        exact hv
      · rw [hc, filter_zs, ← mpl_range, filter_mpl]
    · rename_i hns
      generalize hgs : groupsF keys = gs at *
      have hlen2 : 2 ≤ gs.length := by
        match gs, hns, gf with
        | [], _, gf =>
          have := congrArg List.length gf
          rw [List.length_range, List.flatten_nil, List.length_nil] at this
          omega
        | [g], hns, _ => exact absurd rfl (hns g)
        | _ :: _ :: _, _, _ => simp
      obtain ⟨ls, l1, l2, l3, l4, l5, l6⟩ := labs_zip gs ([], (keys.length : Int)) gne
      have hlab : (labsF keys).1 = ls := by unfold labsF; rw [hgs, l1]; rfl
      have hnx : (gs.foldl labStep ([], (keys.length : Int))).2 = (labsF keys).2 := by unfold labsF; rw [hgs]
      rw [hnx] at l3 l6
      rw [hlab]
      dsimp only at l3 l6
      have x0 : LI keys.length (pends (gs.zip ls)) ⟨chainRows w ls, [], (labsF keys).2⟩ := by
        have e : allL (pends (gs.zip ls)) ⟨chainRows w ls, [], (labsF keys).2⟩ = pends (gs.zip ls) := by simp [allL, labs_chainRows]
        exact ⟨by rw [e]; exact l5, by rw [e]; exact l6, l3, fun c hc => nomatch hc⟩
      have hin : ∀ q ∈ gs.zip ls, ∀ j ∈ q.1, j < keys.length := fun q hq j hj => by
        have h1 : q.1 ∈ gs := (List.of_mem_zip hq).1
        have : j ∈ gs.flatten := List.mem_flatten.mpr ⟨_, h1, hj⟩
        rw [gf] at this
        simpa using this
      obtain ⟨s1, s2, ⟨t, s3, s3'⟩, s4⟩ := segs keys.length (gs.zip ls) _ (fun q hq => ⟨hin q hq, by
        have h1 : q.1 ∈ gs := (List.of_mem_zip hq).1
        have := mem_flat_len gs q.1 h1
        rw [gf, List.length_range] at this
        omega⟩) x0
      have hch0 := segs_chains keys (gs.zip ls) ⟨chainRows w ls, [], (labsF keys).2⟩ (fun p hp => ?_) (fun p hp => nomatch hp)
      have hln := segs_len keys (gs.zip ls) ⟨chainRows w ls, [], (labsF keys).2⟩ (fun p hp => ?_)
      rotate_left
      · have h1 : p.1 ∈ gs := (List.of_mem_zip hp).1
        have := mem_flat_len gs p.1 h1
        rw [gf, List.length_range] at this
        omega
      · have h1 : p.1 ∈ gs := (List.of_mem_zip hp).1
        have := mem_flat_len gs p.1 h1
        rw [gf, List.length_range] at this
        omega
      generalize hst : List.foldl (segStep keys) ⟨chainRows w ls, [], (labsF keys).2⟩ (gs.zip ls) = st' at *
      dsimp only at s3
      have hglen : gs.length ≤ keys.length := by
        have := flat_len gs gne
        rw [gf, List.length_range] at this
        exact this
      refine ⟨fun key => gs.flatMap (outG keys key), ⟨fun key => ?_, fin_nd s1, fin_cl, fin_top s1 h2 ?_ ?_, ?_⟩, fun key => ?_⟩
      · have hts : ∀ q ∈ gs.zip ls, J (finRows w keys st') keys.length w key 2 q.2 (outG keys key q.1) (if q.1.length = 1 then 1 else 4 * q.1.length + 7) := fun q hq => by
          by_cases h1 : q.1.length = 1
          · obtain ⟨p, e1, e2⟩ := l4 q hq h1
            rw [outG, if_pos h1, if_pos h1, e1, e2]
            exact J_clause fin_cl (hin q hq p (by rw [e1]; simp)) (Nat.le_refl _)
          · have hne : q.1 ≠ [] := gne _ (List.of_mem_zip hq).1
            have h2 : 1 < q.1.length := by
              have : q.1.length ≠ 0 := fun h => hne (List.length_eq_zero_iff.mp h)
              omega
            rw [outG, if_neg h1, if_neg h1]
            obtain ⟨pre, st1, t1, P, e1, x1, hs⟩ := s4 q hq h2
            have hB : finRows w keys st' = pre ++ (.lab q.2 :: (swRows keys q.1 st1 ++ (t1 ++ (st'.chains.flatMap (chainSeg w) ++ (List.range keys.length).flatMap clauseSeg)))) := by
              unfold finRows
              rw [e1]
              simp
            have hB2 : finRows w keys st' = (pre ++ [.lab q.2]) ++ (swRows keys q.1 st1 ++ (t1 ++ (st'.chains.flatMap (chainSeg w) ++ (List.range keys.length).flatMap clauseSeg))) := by
              rw [hB]; simp
            have hq2 : (keys.length : Int) ≤ q.2 := (l6 q.2 (by unfold pends; exact List.mem_map.mpr ⟨q, List.mem_filter.mpr ⟨hq, by simpa using h2⟩, rfl⟩)).1
            have sw := switch_W (fin_cl (w := w)) rfl (hin q hq) x1 (fun c hc => fin_ch (w := w) s1 c (hs c hc)) hB2 key
            exact .go (by omega) hB (.lab hq2 sw (by omega))
        have hc := chain_W (B := finRows w keys st') (many := keys.length) (wide := w) (key := key) (rest := t ++ (st'.chains.flatMap (chainSeg w) ++ (List.range keys.length).flatMap clauseSeg)) (ts := (gs.zip ls).map fun q => (q.2, outG keys key q.1, if q.1.length = 1 then 1 else 4 * q.1.length + 7)) (by simp; omega) fun x hx => by
          obtain ⟨q, hq, rfl⟩ := List.mem_map.mp hx
          exact hts q hq
        have hfst : ((gs.zip ls).map fun q : List Nat × Int => ((q.2, outG keys key q.1, if q.1.length = 1 then 1 else 4 * q.1.length + 7) : Tr)).map (·.1) = ls := by
          rw [List.map_map]
          have : ((fun x : Tr => x.1) ∘ fun q : List Nat × Int => ((q.2, outG keys key q.1, if q.1.length = 1 then 1 else 4 * q.1.length + 7) : Tr)) = Prod.snd := rfl
          rw [this, List.map_snd_zip (by omega)]
        have hout : outs ((gs.zip ls).map fun q : List Nat × Int => ((q.2, outG keys key q.1, if q.1.length = 1 then 1 else 4 * q.1.length + 7) : Tr)) = gs.flatMap (outG keys key) := by
          unfold outs
          rw [List.flatMap_map]
          have : (fun q : List Nat × Int => outG keys key q.1) = fun q => outG keys key (Prod.fst q) := rfl
          have h3 : (gs.zip ls).flatMap (fun q => outG keys key q.1) = ((gs.zip ls).map Prod.fst).flatMap (outG keys key) := by rw [List.flatMap_map]
          rw [h3, List.map_fst_zip (by omega)]
        have hcost : cost ((gs.zip ls).map fun q : List Nat × Int => ((q.2, outG keys key q.1, if q.1.length = 1 then 1 else 4 * q.1.length + 7) : Tr)) ≤ 16 * gs.flatten.length := by
          have : ∀ (gs : List (List Nat)) (ls : List Int), (∀ g ∈ gs, g ≠ []) → cost ((gs.zip ls).map fun q : List Nat × Int => ((q.2, outG keys key q.1, if q.1.length = 1 then 1 else 4 * q.1.length + 7) : Tr)) ≤ 16 * gs.flatten.length := by
            intro gs
            induction gs with
            | nil => intro ls _; simp [cost]
            | cons g gs ih =>
              intro ls hne
              cases ls with
              | nil => simp [cost]
              | cons l ls =>
                have i := ih ls fun g h => hne g (List.mem_cons_of_mem _ h)
                have hg : g.length ≠ 0 := fun h => hne g List.mem_cons_self (List.length_eq_zero_iff.mp h)
                unfold cost at i ⊢
                rw [List.zip_cons_cons, List.map_cons, List.map_cons, List.sum_cons, List.flatten_cons, List.length_append]
                dsimp only
                split
                · omega
                · omega
          exact this gs ls gne
        rw [hfst, hout] at hc
        rw [gf, List.length_range] at hcost
        have hBB : finRows w keys st' = chainRows w ls ++ (t ++ (st'.chains.flatMap (chainSeg w) ++ (List.range keys.length).flatMap clauseSeg)) := by
          unfold finRows
          rw [s3]
          simp
        rw [← hBB] at hc
        exact hc.mono (by omega)
      · intro r hr
        rw [s3] at hr
        rcases List.mem_append.mp hr with hr | hr
        · exact ok_chainRows _ _ r hr
        · exact s3' r hr
      · rw [s3]
        match ls, l2 with
        | [], l2 => simp at l2; omega
        | l :: ls, _ => exact ⟨_, List.mem_append_left _ List.mem_cons_self, rfl⟩
      · have h3 := fin_len (a := w) (keys := keys) (st := st') fun p hp => (hch0 p hp).2
        have h4 : (gs.zip ls).length ≤ 6 := by rw [List.length_zip]; omega
        have h5 : (chainRows w ls).length ≤ 6 := by rw [few_rows]; omega
        simp only [List.length_nil] at hln
        omega
      · rw [filter_outG, gf, mpl_range]
end
/-! a block with a row spoiled -/
noncomputable def Lb (n : Nat) (l : Int) : Prop := -1 ≤ l ∧ l < n
inductive Spoil (n : Nat) : Row → List Row → Prop
  | try_ {l a l' : Int} : Lb n l' → Spoil n (.try_ l a) [.try_ l' a]
  | retry {l l' : Int} : Lb n l' → Spoil n (.retry l) [.retry l']
  | retry2 {l : Int} : Spoil n (.retry l) [.retry l, .retry l]
  | trust {l l' : Int} : Lb n l' → Spoil n (.trust l) [.trust l']
  | trust2 {l : Int} : Spoil n (.trust l) [.trust l, .trust l]
  | swt {v c li s v' c' li' s' : Int} : (v' = v ∨ Lb n v') → (c' = c ∨ Lb n c') → (li' = li ∨ Lb n li') → (s' = s ∨ Lb n s') → Spoil n (.swt v c li s) [.swt v' c' li' s']
  | sw {k : Kind} {ps ps' : List (Key × Int)} {d d' : Int} : (d' = d ∨ Lb n d') → (∀ p ∈ ps', p ∈ ps ∨ (Lb n p.2 ∧ ∃ q ∈ ps, q.1 = p.1)) → Spoil n (.sw k ps d) [.sw k ps' d']
/-- a suffix of the block, and what has become of it -/
noncomputable def Sf (pre : List Row) (old : Row) (new post s s' : List Row) : Prop :=
  (∃ v u, pre = v ++ u ∧ s = u ++ old :: post ∧ s' = u ++ (new ++ post)) ∨ ((∃ v, post = v ++ s) ∧ s' = s)
section
variable {pre new post : List Row} {old : Row} {s s' : List Row} {n : Nat} {w : Int} {key : Key}
theorem Sf.cons {r : Row} {t s' : List Row} (h : Sf pre old new post (r :: t) s') : (old = r ∧ post = t ∧ s' = new ++ post) ∨ ∃ t', s' = r :: t' ∧ Sf pre old new post t t' := by
  rcases h with ⟨v, u, e1, e2, e3⟩ | ⟨⟨v, e1⟩, e2⟩
  · cases u with
    | nil =>
      obtain ⟨a, b⟩ := List.cons.inj e2
      exact .inl ⟨a.symm, b.symm, e3⟩
    | cons x u =>
      obtain ⟨rfl, rfl⟩ := List.cons.inj e2
      exact .inr ⟨u ++ (new ++ post), e3, .inl ⟨v ++ [r], u, by rw [e1, List.append_assoc]; rfl, rfl, rfl⟩⟩
  · exact .inr ⟨t, e2, .inr ⟨⟨v ++ [r], by rw [e1, List.append_assoc]; rfl⟩, rfl⟩⟩
theorem Sf.rest : Sf pre old new post post post := .inr ⟨⟨[], rfl⟩, rfl⟩
theorem Sf.whole : Sf pre old new post (pre ++ old :: post) (pre ++ (new ++ post)) := .inl ⟨[], pre, rfl, rfl, rfl⟩
theorem Sf.lab {l : Int} {a r : List Row} (hold : ∀ l, old ≠ .lab l) (e : pre ++ old :: post = a ++ .lab l :: r) : ∃ a' r', pre ++ (new ++ post) = a' ++ .lab l :: r' ∧ Sf pre old new post (.lab l :: r) (.lab l :: r') := by
  rcases List.append_eq_append_iff.mp e with ⟨c, e1, e2⟩ | ⟨c, e1, e2⟩
  · cases c with
    | nil =>
      simp only [List.nil_append, List.cons.injEq] at e2
      exact absurd e2.1 (hold l)
    | cons x c =>
      simp only [List.cons_append, List.cons.injEq] at e2
      obtain ⟨rfl, e2⟩ := e2
      refine ⟨pre ++ new ++ c, r, by rw [e2]; simp, .inr ⟨⟨c, e2⟩, rfl⟩⟩
  · cases c with
    | nil =>
      simp only [List.nil_append, List.cons.injEq] at e2
      exact absurd e2.1.symm (hold l)
    | cons x c =>
      simp only [List.cons_append, List.cons.injEq] at e2
      obtain ⟨rfl, e2⟩ := e2
      exact ⟨a, c ++ (new ++ post), by rw [e1]; simp, .inl ⟨a, .lab l :: c, e1, by rw [e2]; rfl, rfl⟩⟩
theorem Lb.J {B : List Row} {cc : Nat} {l : Int} (h : Lb n l) (hcl : ClAt B n) {m : Nat} (hm : 1 ≤ m) : ∃ o, J B n w key cc l o m := by
  obtain ⟨h0, h1⟩ := h
  by_cases e : l = -1
  · subst e; exact ⟨[], .fail⟩
  · have : l = (l.toNat : Int) := by omega
    rw [this]
    exact ⟨_, J_clause hcl (by omega) hm⟩
theorem okTab.sub {k : Kind} {ps ps' : List (Key × Int)} (h : okTab key k ps) (hs : ∀ p ∈ ps', p ∈ ps ∨ (Lb n p.2 ∧ ∃ q ∈ ps, q.1 = p.1)) : okTab key k ps' :=
  ⟨h.1, h.2.1, fun p hp => by
    rcases hs p hp with h1 | ⟨_, q, hq, e⟩
    · exact h.2.2 p h1
    · rw [← e]; exact h.2.2 q hq⟩
/-- some visits along a walk -/
noncomputable def SW (pre : List Row) (old : Row) (new post : List Row) (n : Nat) (w : Int) (key : Key) (b : Bool) (s : List Row) (_ : List Int) (m : Nat) : Prop := ∀ s', Sf pre old new post s s' → ∃ o', W (pre ++ (new ++ post)) n w key 1 b s' o' (2 * m)
noncomputable def SJ (pre new post : List Row) (n : Nat) (w : Int) (key : Key) (l : Int) (_ : List Int) (m : Nat) : Prop := ∃ o', J (pre ++ (new ++ post)) n w key 1 l o' (2 * m)
theorem ar_sp {n1 n2 n : Nat} (h : 2 * (n1 + 1) + n2 ≤ n) : 1 * (2 * n1 + 1) + 2 * n2 ≤ 2 * n ∧ 1 * (2 * n1 + 1) + (1 * (2 * n1 + 1) + 2 * n2) ≤ 2 * n ∧ 1 * (1 + 1) + 2 * n2 ≤ 2 * n := ⟨by omega, by omega, by omega⟩
theorem ar_s1 {n1 n : Nat} (h : n1 + 1 ≤ n) : 2 * n1 + 1 ≤ 2 * n ∧ 1 + 1 ≤ 2 * n := ⟨by omega, by omega⟩
theorem ar_s2 {n1 n : Nat} (h : n1 + 2 ≤ n) : 2 * n1 + 1 + 2 ≤ 2 * n ∧ 2 * n1 + 2 ≤ 2 * n := ⟨by omega, by omega⟩
theorem SJ.or {l l' : Int} {o : List Int} {m : Nat} (h : l' = l ∨ Lb n l') (hcl : ClAt (pre ++ (new ++ post)) n) (j : SJ pre new post n w key l o m) : ∃ o', J (pre ++ (new ++ post)) n w key 1 l' o' (2 * m + 1) := by
  rcases h with rfl | h
  · exact let ⟨o, j⟩ := j; ⟨o, j.mono (Nat.le_succ _)⟩
  · exact h.J hcl (Nat.le_add_left 1 _)
theorem W_spoil (hold : ∀ l, old ≠ .lab l) (hsp : Spoil n old new) (hcl : ClAt (pre ++ (new ++ post)) n) : (∀ {b : Bool} {s : List Row} {o : List Int} {m : Nat}, W (pre ++ old :: post) n w key 2 b s o m → SW pre old new post n w key b s o m) ∧ ∀ {l : Int} {o : List Int} {m : Nat}, J (pre ++ old :: post) n w key 2 l o m → SJ pre new post n w key l o m := by
  refine W_both (fun {l r m} h0 h1 hn s' h => ?_) (fun {l r o n1 m} h0 ih hn s' h => ?_) (fun {b l r o1 o2 n1 n2 m} j ih hn s' h => ?_) (fun {l r o n1 m} j hn s' h => ?_) (fun {v c li s r o n1 m} j hn s' h => ?_) (fun {k ps d r f n1 m} ok h1 h2 hn s' h => ?_) ⟨[], .fail⟩ fun {l a r o m} h0 hB ih => ?_
  · rcases h.cons with ⟨e, _⟩ | ⟨t', rfl, _⟩
    · exact absurd e (hold l)
    · exact ⟨_, .clause h0 h1 (Nat.le_trans hn (Nat.le_mul_of_pos_left _ (by decide)))⟩
  · rcases h.cons with ⟨e, _⟩ | ⟨t', rfl, ht⟩
    · exact absurd e (hold l)
    · exact let ⟨o', w'⟩ := ih t' ht; ⟨o', .lab h0 w' (ar_s1 hn).1⟩
  · obtain ⟨o1, j1⟩ := j
    obtain ⟨a1, a2, a3⟩ := ar_sp hn
    rcases h.cons with ⟨rfl, rfl, rfl⟩ | ⟨t', rfl, ht⟩
    · obtain ⟨o2, w2⟩ := ih _ .rest
      have one : ∀ {l' : Int}, Lb n l' → ∃ o', W _ n w key 1 b (altRow w b l' :: post) o' (2 * m) := fun hb => let ⟨o3, j3⟩ := hb.J hcl (w := w) (key := key) (cc := 1) (Nat.le_refl 1); ⟨_, .alt j3 w2 a3⟩
      cases b with
      | true => cases hsp with
        | try_ hb => exact one hb
      | false => cases hsp with
        | retry hb => exact one hb
        | retry2 => exact ⟨_, .alt (b := false) j1 (.alt (b := false) j1 w2 (Nat.le_refl _)) a2⟩
    · exact let ⟨o2, w2⟩ := ih t' ht; ⟨_, .alt j1 w2 a1⟩
  · obtain ⟨o1, j1⟩ := j
    rcases h.cons with ⟨rfl, rfl, rfl⟩ | ⟨t', rfl, ht⟩
    · cases hsp with
      | trust hb => exact let ⟨o3, j3⟩ := hb.J hcl (w := w) (key := key) (cc := 1) (Nat.le_refl 1); ⟨_, .trust j3 (ar_s1 hn).2⟩
      | trust2 => exact ⟨_, .trust j1 (ar_s1 hn).1⟩
    · exact ⟨_, .trust j1 (ar_s1 hn).1⟩
  · rcases h.cons with ⟨rfl, rfl, rfl⟩ | ⟨t', rfl, ht⟩
    · cases hsp with
      | @swt v c li s v' c' li' s' h1 h2 h3 h4 =>
        have : sel key (.swt v' c' li' s') = sel key (.swt v c li s) ∨ Lb n (sel key (.swt v' c' li' s')) := by
          unfold sel
          cases key.kind with
          | var => exact h1
          | co => exact h2
          | list => exact h3
          | st => exact h4
        exact let ⟨o, jj⟩ := j.or this hcl; ⟨o, .swt jj (ar_s2 hn).1⟩
    · exact let ⟨o1, j1⟩ := j; ⟨o1, .swt j1 (ar_s2 hn).2⟩
  · rcases h.cons with ⟨rfl, rfl, rfl⟩ | ⟨t', rfl, ht⟩
    · cases hsp with
      | @sw _ _ ps' _ d' hd hps =>
        have a' := SJ.or hd hcl h2
        have b' : ∀ p ∈ ps', ∃ o', J (pre ++ ([.sw k ps' d'] ++ post)) n w key 1 p.2 o' (2 * n1 + 1) := fun p hp => (hps p hp).elim (fun hp => (h1 p hp).or (.inl rfl) hcl) fun hl => hl.1.J hcl (Nat.le_add_left 1 _)
        obtain ⟨o, jc⟩ := look_of (P := fun l => ∃ o', J (pre ++ ([.sw k ps' d'] ++ post)) n w key 1 l o' (2 * n1 + 1)) (key := key) b' a'
        exact ⟨o, sw_W (ok.sub hps) b' a' jc (ar_s2 hn).1⟩
    · obtain ⟨o, jc⟩ := look_of (P := fun l => ∃ o', J (pre ++ (new ++ post)) n w key 1 l o' (2 * n1)) (key := key) h1 h2
      exact ⟨o, sw_W ok h1 h2 jc (ar_s2 hn).2⟩
  · obtain ⟨a', r', e, hs⟩ := Sf.lab (new := new) hold hB
    exact let ⟨o', w'⟩ := ih _ hs; ⟨o', .go h0 e w'⟩
theorem W.spoil (hold : ∀ l, old ≠ .lab l) (hsp : Spoil n old new) (hcl : ClAt (pre ++ (new ++ post)) n) {b : Bool} {s : List Row} {o : List Int} {m : Nat} (h : W (pre ++ old :: post) n w key 2 b s o m) : ∀ s', Sf pre old new post s s' → ∃ o', W (pre ++ (new ++ post)) n w key 1 b s' o' (2 * m) := (W_spoil hold hsp hcl).1 h
end
/-! keys that no table has -/
section
variable {B : List Row} {many w : Int} {k1 k2 : Key} {cc : Nat}
noncomputable def NoKey (B : List Row) (key : Key) : Prop := ∀ k ps d, Row.sw k ps d ∈ B → key ∉ ps.map (·.1)
theorem okTab.alike {k : Kind} {ps : List (Key × Int)} (hk : k1.kind = k2.kind) (h : okTab k1 k ps) : okTab k2 k ps := ⟨hk ▸ h.1, h.2.1, h.2.2⟩
theorem W_alike (hk : k1.kind = k2.kind) (h1 : NoKey B k1) (h2 : NoKey B k2) : (∀ {b : Bool} {s : List Row} {o : List Int} {m : Nat}, W B many w k1 cc b s o m → (∀ r ∈ s, r ∈ B) → W B many w k2 cc b s o m) ∧ ∀ {l : Int} {o : List Int} {m : Nat}, J B many w k1 cc l o m → J B many w k2 cc l o m := by
  refine W_both (P := fun b s o m => (∀ r ∈ s, r ∈ B) → W B many w k2 cc b s o m) (fun a b c _ => .clause a b c) (fun a ih c hs => .lab a (ih fun r hr => hs r (List.mem_cons_of_mem _ hr)) c) (fun j ih c hs => .alt j (ih fun r hr => hs r (List.mem_cons_of_mem _ hr)) c) (fun j c _ => .trust j c)
    (fun {v c li s r o n1 n} j b _ => .swt (by unfold sel at j ⊢; rw [← hk]; exact j) b) (fun {k ps d r f n1 n} a b c e hs => ?_) .fail fun a b ih => .go a b (ih fun r hr => by rw [b]; exact List.mem_append_right _ hr)
  have := W.sw (r := r) (f := f) (a.alike hk) b c e
  rw [lk_miss (h2 k ps d (hs _ List.mem_cons_self))] at this
  rw [lk_miss (h1 k ps d (hs _ List.mem_cons_self))]
  exact this
theorem W.alike (hk : k1.kind = k2.kind) (h1 : NoKey B k1) (h2 : NoKey B k2) {b : Bool} {s : List Row} {o : List Int} {m : Nat} (h : W B many w k1 cc b s o m) (hs : ∀ r ∈ s, r ∈ B) : W B many w k2 cc b s o m := (W_alike hk h1 h2).1 h hs
end
section
variable {keys : List Key} {w : Int} {B : List Row} {vis : Key → List Int}
theorem Snd.blk (S : Snd keys w B vis) (h2 : 2 ≤ keys.length) : Blk B keys.length w 2 vis :=
  ⟨fun key => ⟨100, by omega, S.W key⟩, uniq_of S.nd, by have := S.len; omega, by omega, by omega⟩
theorem Snd.tab (S : Snd keys w B vis) {k : Kind} {ps : List (Key × Int)} {d : Int} (h : Row.sw k ps d ∈ B) : (tabl k ∧ ps ≠ [] ∧ ∀ p ∈ ps, p.1 ∈ keys ∧ p.1.kind = k) ∧ ps.length < 100 := by
  obtain ⟨hd, tl, e, h1, _, h3⟩ := S.top
  rw [e] at h
  rcases List.mem_append.mp h with h | h
  · exact (h1 _ h).2
  · rcases List.mem_cons.mp h with h | h
    · cases h
    · exact absurd rfl (h3 _ h k ps d)
theorem Spoil.labs {n : Nat} {old : Row} {new : List Row} (h : Spoil n old new) : labs [old] = [] ∧ labs new = [] := by
  cases h <;> exact ⟨rfl, rfl⟩
theorem Spoil.notLab {n : Nat} {old : Row} {new : List Row} (h : Spoil n old new) : ∀ l, old ≠ .lab l := by
  intro l e; subst e; cases h
/-- one key for all of a kind that no clause has -/
noncomputable def rep (keys : List Key) (key : Key) : Key := by
  classical
  exact if key ∈ keys then key else if h : ∃ k, k ∉ keys ∧ k.kind = key.kind then h.choose else key
theorem rep_in {key : Key} (h : key ∈ keys) : rep keys key = key := by unfold rep; rw [if_pos h]
theorem rep_out {key : Key} (h : key ∉ keys) : rep keys key ∉ keys ∧ (rep keys key).kind = key.kind := by
  unfold rep
  rw [if_neg h]
  have he : ∃ k, k ∉ keys ∧ k.kind = key.kind := ⟨key, h, rfl⟩
  rw [dif_pos he]
  exact he.choose_spec
theorem rep_eq {k1 k2 : Key} (h1 : k1 ∉ keys) (h2 : k2 ∉ keys) (hk : k1.kind = k2.kind) : rep keys k1 = rep keys k2 := by
  unfold rep
  rw [if_neg h1, if_neg h2]
  have e1 : ∃ k, k ∉ keys ∧ k.kind = k1.kind := ⟨k1, h1, rfl⟩
  have e2 : ∃ k, k ∉ keys ∧ k.kind = k2.kind := ⟨k2, h2, rfl⟩
  rw [dif_pos e1, dif_pos e2]
  have : (fun k : Key => k ∉ keys ∧ k.kind = k1.kind) = fun k => k ∉ keys ∧ k.kind = k2.kind := by rw [hk]
  congr 1
noncomputable def Alike (keys : List Key) (vis : Key → List Int) : Prop := ∀ k1 k2, k1.kind = k2.kind → k1 ∉ keys → k2 ∉ keys → vis k1 = vis k2
theorem spoiled_blk (S : Snd keys w B vis) (h2 : 2 ≤ keys.length) {pre post new : List Row} {old : Row} (e : B = pre ++ old :: post) (hs : Spoil keys.length old new) :
    ∃ vis', Blk (pre ++ (new ++ post)) keys.length w 1 vis' ∧ Alike keys vis' := by
  subst e
  have hl : labs (pre ++ (new ++ post)) = labs (pre ++ old :: post) := by
    rw [labs_append, labs_append, labs_append, labs_cons, hs.labs.1, hs.labs.2]
  have hcl : ClAt (pre ++ (new ++ post)) keys.length := fun j hj => by
    rw [← mem_labs, hl, mem_labs]; exact S.cl j hj
  have hW : ∀ key, ∃ o, W (pre ++ (new ++ post)) keys.length w key 1 true (pre ++ (new ++ post)) o 200 := fun key => W.spoil hs.notLab hs hcl (S.W key) _ .whole
  have hno : ∀ key, key ∉ keys → NoKey (pre ++ (new ++ post)) key := fun key hk k ps d hm hin => by
    obtain ⟨p, hp, rfl⟩ := List.mem_map.mp hin
    have old1 : Row.sw k ps d ∈ pre ++ old :: post → False := fun h => hk ((S.tab h).1.2.2 p hp).1
    rcases List.mem_append.mp hm with h | h
    · exact old1 (List.mem_append_left _ h)
    · rcases List.mem_append.mp h with h | h
      · obtain ⟨ps0, d0, e0, hps⟩ : ∃ ps0 d0, old = .sw k ps0 d0 ∧ ∀ p ∈ ps, p ∈ ps0 ∨ (Lb keys.length p.2 ∧ ∃ q ∈ ps0, q.1 = p.1) := by
          cases hs with
          | @sw k0 ps0 ps' d0 d' hd hps =>
            simp at h
            obtain ⟨rfl, rfl, rfl⟩ := h
            exact ⟨ps0, d0, rfl, hps⟩
          | _ => simp at h
        have ht := S.tab (k := k) (ps := ps0) (d := d0) (by rw [e0]; simp)
        rcases hps p hp with h1 | ⟨_, q, hq, e⟩
        · exact hk (ht.1.2.2 p h1).1
        · exact hk (e ▸ (ht.1.2.2 q hq).1)
      · exact old1 (List.mem_append_right _ (List.mem_cons_of_mem _ h))
  refine ⟨fun key => (hW (rep keys key)).choose, ⟨fun key => ⟨200, Nat.le_refl _, ?_⟩, uniq_of (by rw [hl]; exact S.nd), ?_, Nat.le_refl _, by omega⟩, fun k1 k2 hk n1 n2 => ?_⟩
  · have := (hW (rep keys key)).choose_spec
    by_cases hk : key ∈ keys
    · rw [rep_in hk] at this ⊢; exact this
    · obtain ⟨r1, r2⟩ := rep_out hk
      exact this.alike r2 (hno _ r1) (hno _ hk) fun r hr => hr
  · have := S.len
    have hn : new.length ≤ 2 := by cases hs <;> simp
    simp only [List.length_append, List.length_cons] at this ⊢
    omega
  · dsimp only
    rw [rep_eq n1 n2 hk]
theorem mat_out {k key : Key} (hk : k ∈ keys) (hn : key ∉ keys) (hv : key ≠ .var) : mat k key = decide (k = .var) := by
  have hne : k ≠ key := fun e => hn (e ▸ hk)
  unfold mat
  simp [hv, hne]
theorem okAt_alike (h : Alike keys vis) {e : Bool} {k1 k2 : Key} (hk : k1.kind = k2.kind) (n1 : k1 ∉ keys) (n2 : k2 ∉ keys) (v1 : k1 ≠ .var) (v2 : k2 ≠ .var) : okAt keys vis e k1 = okAt keys vis e k2 := by
  have hm : ∀ j : Nat, (keys[j]?).any (mat · k1) = (keys[j]?).any (mat · k2) := fun j => by
    cases hj : keys[j]? with
    | none => rfl
    | some k =>
      have := List.mem_of_getElem? hj
      simp only [Option.any_some]
      rw [mat_out this n1 v1, mat_out this n2 v2]
  have h1 : matAt keys k1 = matAt keys k2 := funext fun x => hm x.toNat
  have h2 : cand keys k1 = cand keys k2 := by
    unfold cand mpl
    exact List.filter_congr fun j _ => hm j
  unfold okAt
  rw [h k1 k2 hk n1 n2, h1, h2]
noncomputable def KeyOk (k : Key) : Prop := match k with
  | .co _ n => n ≤ 10 ^ 30
  | .st f => f ≤ 14
  | _ => True
noncomputable def callsOf (keys : List Key) : List Key := [.var, .list, .co 5 (10 ^ 40), .st 9999] ++ keys
theorem check_eq (h : Alike keys vis) {e : Bool} {sm : List Key} {g f : Int} (hs : SmpOk keys sm g f) (hk : ∀ k ∈ keys, KeyOk k) : (sm ++ [Key.co 5 (g + 1), Key.st (f + 1)]).all (okAt keys vis e) = (callsOf keys).all (okAt keys vis e) := by
  obtain ⟨o1, o2, o3⟩ := hs
  have n1 : Key.co 5 (g + 1) ∉ keys := fun h => by have := o1 _ h; omega
  have n2 : Key.st (f + 1) ∉ keys := fun h => by have := o2 _ h; omega
  have n3 : Key.co 5 (10 ^ 40) ∉ keys := fun h => by have : (10 : Int) ^ 40 ≤ 10 ^ 30 := hk _ h; exact absurd this (by decide)
  have n4 : Key.st 9999 ∉ keys := fun h => by have : (9999 : Int) ≤ 14 := hk _ h; omega
  have e1 : okAt keys vis e (.co 5 (g + 1)) = okAt keys vis e (.co 5 (10 ^ 40)) := okAt_alike h rfl n1 n3 (by simp) (by simp)
  have e2 : okAt keys vis e (.st (f + 1)) = okAt keys vis e (.st 9999) := okAt_alike h rfl n2 n4 (by simp) (by simp)
  rw [Bool.eq_iff_iff, List.all_eq_true, List.all_eq_true]
  constructor
  · intro a k hk
    rcases List.mem_append.mp hk with hk | hk
    · simp only [List.mem_cons, List.not_mem_nil, or_false] at hk
      rcases hk with rfl | rfl | rfl | rfl
      · exact a _ (List.mem_append_left _ ((o3 _).mpr (.inl rfl)))
      · exact a _ (List.mem_append_left _ ((o3 _).mpr (.inr (.inl rfl))))
      · rw [← e1]; exact a _ (List.mem_append_right _ (by simp))
      · rw [← e2]; exact a _ (List.mem_append_right _ (by simp))
    · exact a _ (List.mem_append_left _ ((o3 _).mpr (.inr (.inr hk))))
  · intro a k hk
    rcases List.mem_append.mp hk with hk | hk
    · rcases (o3 _).mp hk with rfl | rfl | hk
      · exact a _ (by simp [callsOf])
      · exact a _ (by simp [callsOf])
      · exact a _ (List.mem_append_right _ hk)
    · simp only [List.mem_cons, List.not_mem_nil, or_false] at hk
      rcases hk with rfl | rfl
      · rw [e1]; exact a _ (by simp [callsOf])
      · rw [e2]; exact a _ (by simp [callsOf])
end
/-- it answers enc a, of an a with p -/
noncomputable def RunA {α : Type} (enc : α → V) (t : Option (V × Hp)) (p : α → Prop) (Q : Hp → Prop) : Prop := ∃ a H2, t = some (enc a, H2) ∧ p a ∧ Q H2
theorem RunA.use {α : Type} {enc : α → V} {t : Option (V × Hp)} {p : α → Prop} {Q : Hp → Prop} {G : Prop} (h : RunA enc t p Q) (k : ∀ a H2, t = some (enc a, H2) → p a → Q H2 → G) : G := let ⟨a, H2, e, x, y⟩ := h; k a H2 e x y
theorem RunA_fn {α : Type} {enc : α → V} {b : Sx} {ps : List String} {Xs : List V} {H : Hp} {p : α → Prop} {Q : Hp → Prop} (hl : Xs.length = ps.length) (h : Run (b (args ps Xs) H) fun z => ∃ a, z.1 = .ret (enc a) ∧ p a ∧ Q z.2.2) : RunA enc (fnOf ps b Xs H) p Q := by
  obtain ⟨⟨fl, m, H2⟩, e, a, rfl, x, y⟩ := h
  exact ⟨a, H2, by unfold fnOf; rw [if_pos hl, e]; rfl, x, y⟩
/-- a list of ints at q, of few items -/
noncomputable def Ints (H : Hp) (q : Nat) : Prop := ∃ xs : List Int, H[q]? = some (.list (xs.map .int)) ∧ xs.length < 2000
/-- draws were made -/
structure Ch (q : Nat) (H H2 : Hp) : Prop where
  row : Ints H2 q
  ext : ExtB [q] H H2
section
variable {m : Loc} {H H1 H2 : Hp} {q r : Nat} {vs : List V} {a b e : Ex} {t : Tx} {i j : Int}
theorem Ints.ext {S : List Nat} (x : Ints H q) (e : ExtB S H H1) (h : q ∉ S) : Ints H1 q := let ⟨xs, a, b⟩ := x; ⟨xs, e.get h a, b⟩
theorem Ints.lt (x : Ints H q) : q < H.length := let ⟨xs, a, b⟩ := x; lt_of a
theorem Ch.trans (x : Ch q H H1) (y : Ch q H1 H2) : Ch q H H2 := ⟨y.row, x.ext.trans y.ext⟩
theorem Ch.pre (x : Ext H H1) (y : Ch q H1 H2) : Ch q H H2 := ⟨y.row, (Ext.any x).trans y.ext⟩
theorem Ch.refl (x : Ints H q) : Ch q H H := ⟨x, .refl⟩
theorem Ch.post (x : Ch q H H1) (y : Ext H1 H2) : Ch q H H2 := ⟨x.row.ext y (fun h => nomatch h), x.ext.trans (Ext.any y)⟩
theorem t_nile {ne : Bool} (h : a m H = some (.ref r, H1)) (hl : H1[r]? = some (.list vs)) (hf : flatsN 8 vs = true) : T.nil ne a m H = some (vs.isEmpty != ne, H1) := by
  unfold T.nil; rw [h]; show ((V.ref r).asL H1).bind _ = _; rw [V.asL_ref hl]; exact if_pos hf
theorem e_ifeT (h : t m H = some (true, H1)) : E.ife t a b m H = a m H1 := by unfold E.ife; rw [h]; rfl
theorem e_ifeF (h : t m H = some (false, H1)) : E.ife t a b m H = b m H1 := by unfold E.ife; rw [h]; rfl
theorem e_mod (h : a m H = some (.int i, H1)) (h2 : b m H1 = some (.int j, H2)) (hj : j ≠ 0) : E.bin .Mod a b m H = some (.int (i.fmod j), H2) := by unfold E.bin; rw [h, Option.bind_some, h2]; exact binV_mod hj
theorem next_ok (x : Ints H q) : RunA .int (P.law_next [.ref q] H) (fun _ => True) (Ch q H) := by
  obtain ⟨xs, hq, hl⟩ := x
  rcases List.eq_nil_or_concat xs with rfl | ⟨ys, y, rfl⟩
  · exact RunA_fn rfl (Run.ret ((e_ifeF (t_nile (e_var rfl) hq (nats_flat []))).trans rfl) ⟨0, rfl, trivial, ⟨[], hq, hl⟩, .refl⟩)
  · have hz : ys.length < 2000 := Nat.lt_of_succ_lt (by rw [List.length_concat] at hl; exact hl)
    have hf := ints_flat (n := 8) (ys.concat y)
    rw [List.concat_eq_append, List.map_append] at hq hf
    exact RunA_fn rfl (Run.ret ((e_ifeT ((t_nile (e_var rfl) hq hf).trans (by cases ys <;> rfl))).trans (e_pop (e_var rfl) hq)) ⟨y, rfl, trivial, ⟨ys, get_set hq, hz⟩, .set (.head _)⟩)
theorem fmod_lt {a b : Int} (h : 0 < b) : 0 ≤ a.fmod b ∧ a.fmod b < b := ⟨Int.fmod_nonneg_of_pos a h, Int.fmod_lt_of_pos a h⟩
/-- _law_next(row) % n -/
theorem mod_ok {n : Int} (hn : 0 < n) (x : Ints H q) (hm : m "row" = some (.ref q)) (he : ∀ H', ExtB [q] H H' → e m H' = some (.int n, H')) : RunA .int (E.bin .Mod (E.call P.law_next [E.var "row"]) e m H) (fun i => 0 ≤ i ∧ i < n) (Ch q H) :=
  (next_ok x).use fun i H2 h _ y => ⟨_, H2, e_mod (e_call1 (e_var hm) h) (he H2 y.ext) (Int.ne_of_gt hn), fmod_lt hn, y⟩
/-- [..][_law_next(row) % n] -/
theorem pick_ok {es : List Ex} {xs : List Int} (x : Ints H q) (hm : m "row" = some (.ref q)) (hes : ∀ H, E.evs es m H = some (xs.map .int, H)) (hv : 0 < xs.length) :
    RunA .int (E.item (E.list es) (E.bin .Mod (E.call P.law_next [E.var "row"]) (E.const (.int xs.length))) m H) (· ∈ xs) (Ch q H) := by
  have x1 : Ext H (H ++ [.list (xs.map .int)]) := .push
  refine (mod_ok (m := m) (e := E.const (.int xs.length)) (Int.natCast_pos.mpr hv) (x.ext x1 fun h => nomatch h) hm fun _ _ => rfl).use fun i H2 h hi y => ?_
  obtain ⟨j, rfl⟩ := Int.eq_ofNat_of_zero_le hi.1
  have hj : j < xs.length := Int.ofNat_lt.mp hi.2
  refine ⟨xs[j], H2, e_item (e_list (hes H)) h (list_get (y.ext.get (fun h => ?_) get_new) ?_), List.getElem_mem hj, y.pre x1⟩
  · exact absurd x.lt (by rw [List.mem_singleton.mp h]; exact Nat.lt_irrefl _)
  · rw [List.getElem?_map, List.getElem?_eq_getElem hj]; rfl
theorem e_pow (h : a m H = some (.int i, H1)) (h2 : b m H1 = some (.int j, H2)) (hj : 0 ≤ j ∧ j ≤ 1000 ∧ i.natAbs < 1000) : E.bin .Pow a b m H = some (.int (i ^ j.toNat), H2) := by unfold E.bin; rw [h, Option.bind_some, h2]; exact binV_pow hj
theorem c_case (h : 0 ≤ i ∧ i < 5) (h0 : decide (i = 0) = false) (h3 : decide (i = 3) = false) (h4 : decide (i = 4) = false) : i = ((1 : Nat) : Int) ∨ i = ((2 : Nat) : Int) := by
  have := of_decide_eq_false h0
  have := of_decide_eq_false h3
  have := of_decide_eq_false h4
  omega
theorem e_kind {n : Nat} (hk : m "kind" = some (.int i)) (hi : i = ((n + 1 : Nat) : Int)) (hn : [V.int 4, V.int 5][n]? = some (.int j)) : E.item (E.list [E.const (.int 4), E.const (.int 5)]) (E.bin .Sub (E.var "kind") (E.const (.int 1))) m H = some (.int j, H ++ [.list [.int 4, .int 5]]) :=
  e_item (e_list (evs2 rfl rfl)) ((e_sub (e_var hk) rfl).trans (by rw [hi, Int.natCast_succ, Int.add_sub_cancel])) (list_get get_new hn)
theorem key_ok (x : Ints H q) : RunA Key.enc (P.law_key [.ref q] H) KeyOk (Ch q H) := by
  refine RunA_fn rfl ((mod_ok (n := 5) (e := E.const (.int 5)) (by decide) x rfl fun _ _ => rfl).use fun i H1 h hi y => .of (s_asg h rfl) ?_)
  have mk : upd (args ["row"] [.ref q]) "kind" (.int i) "kind" = some (.int i) := rfl
  have mr : upd (args ["row"] [.ref q]) "kind" (.int i) "row" = some (.ref q) := rfl
  generalize upd (args ["row"] [.ref q]) "kind" (.int i) = m1 at *
  refine Run.iff (t_eqi (e_var mk)) (fun _ => .of s_assoc (Run.ret rfl ⟨.var, rfl, trivial, y⟩)) fun h0 => Run.iff (t_eqi (e_var mk)) (fun _ => .of s_assoc (Run.ret rfl ⟨.list, rfl, trivial, y⟩)) fun h3 => Run.iff (t_eqi (e_var mk)) (fun _ => .of s_assoc ?_) fun h4 => ?_
  · refine (pick_ok (m := m1) (es := [E.const (.int 12), E.const (.int 13), E.const (.int 14)]) (xs := [12, 13, 14]) y.row mr (fun _ => rfl) (by decide)).use fun f H2 e hf z => ?_
    have kf : f ≤ 14 := (by decide : ∀ f ∈ [(12 : Int), 13, 14], f ≤ 14) f hf
    exact Run.ret (e_tup (evs2 rfl e)) ⟨.st f, rfl, kf, y.trans z⟩
  · have co : ∀ {c : Int}, E.item (E.list [E.const (.int 4), E.const (.int 5)]) (E.bin .Sub (E.var "kind") (E.const (.int 1))) m1 H1 = some (.int c, H1 ++ [.list [.int 4, .int 5]]) → Run (S.seq (S.ret (E.tup [E.const (.str "const"), E.tup [E.item (E.list [E.const (.int 4), E.const (.int 5)]) (E.bin .Sub (E.var "kind") (E.const (.int 1))), E.item (E.list [E.const (.int 0), E.const (.int 1), E.const (.int 2), E.bin .Pow (E.const (.int 10)) (E.const (.int 30))]) (E.bin .Mod (E.call P.law_next [E.var "row"]) (E.const (.int 4)))]])) S.nil m1 H1) fun z => ∃ a, z.1 = .ret (Key.enc a) ∧ KeyOk a ∧ Ch q H z.2.2 := fun {c} e1 => by
      have x1 : Ext H1 (H1 ++ [.list [.int 4, .int 5]]) := .push
      refine (pick_ok (m := m1) (es := [E.const (.int 0), E.const (.int 1), E.const (.int 2), E.bin .Pow (E.const (.int 10)) (E.const (.int 30))]) (xs := [0, 1, 2, 10 ^ 30]) (y.row.ext x1 fun h => nomatch h) mr (fun H => evsC rfl (evs3 rfl rfl (e_pow (i := 10) (j := 30) rfl rfl (by decide)))) (by decide)).use fun n H2 e hn z => ?_
      have kn : n ≤ 10 ^ 30 := (by decide : ∀ n ∈ [(0 : Int), 1, 2, 10 ^ 30], n ≤ 10 ^ 30) n hn
      exact Run.ret (e_tup (evs2 rfl (e_tup (evs2 e1 e)))) ⟨.co c n, rfl, kn, y.trans (z.pre x1)⟩
    exact (c_case hi h0 h3 h4).elim (fun h => co (e_kind (n := 0) (j := 4) mk h rfl)) fun h => co (e_kind (n := 1) (j := 5) mk h rfl)
end
section
variable {m : Loc} {H H1 H2 : Hp} {q r k n : Nat} {vs : List V} {a b o : Ex} {i j : Int}
theorem e_uptof (ha : a m H = some (.frz vs, H1)) (hi : b m H1 = some (.int n, H2)) (hv : vs.length ≤ big) : E.upto a b m H = some (.ref H2.length, H2 ++ [.list (vs.take n)]) := by
  unfold E.upto; rw [ha, Option.bind_some, hi]; show ((if vs.length ≤ big then some vs else Option.none).bind _) = _; rw [if_pos hv]; exact if_pos (e := Option.none) (Int.natCast_nonneg n)
theorem e_upto (ha : a m H = some (.ref r, H1)) (hi : b m H1 = some (.int n, H2)) (hl : H2[r]? = some (.list vs)) : E.upto a b m H = some (.ref H2.length, H2 ++ [.list (vs.take n)]) := by
  unfold E.upto; rw [ha, Option.bind_some, hi]; show ((V.ref r).asL H2).bind _ = _; rw [V.asL_ref hl]; exact if_pos (e := Option.none) (Int.natCast_nonneg n)
theorem e_rev (ho : o m H = some (.ref r, H1)) (h0 : H1[r]? = some (.list vs)) : E.lmeth E.opRev o [] m H = some (.none, H1.set r (.list vs.reverse)) := by
  unfold E.lmeth
  rw [ho, Option.bind_some]
  simp only [lst_ref h0, Option.bind_some, E.evs]
  rfl
theorem e_fdiv (h : a m H = some (.int i, H1)) (h2 : b m H1 = some (.int j, H2)) (hj : j ≠ 0 ∧ j.natAbs < 1073741824) : E.bin .FloorDiv a b m H = some (.int (i.fdiv j), H2) := by unfold E.bin; rw [h, Option.bind_some, h2]; exact binV_div hj
structure RS (H0 : Hp) (q k : Nat) (m : Loc) (H : Hp) : Prop where
  mr : m "row" = some (.ref q)
  row : ∃ ys : List Int, H[q]? = some (.list (ys.map .int)) ∧ ys.length ≤ k
  ext : ExtB [q] H0 H
variable {H0 : Hp} {R U : Sx} {Q : Fl × Loc × Hp → Prop}
theorem RS.weak {k' : Nat} (x : RS H0 q k m H) (h : k ≤ k') : RS H0 q k' m H := ⟨x.mr, let ⟨ys, a, b⟩ := x.row; ⟨ys, a, Nat.le_trans b h⟩, x.ext⟩
theorem RS.loc {y : String} {v : V} (x : RS H0 q k m H) (h : "row" ≠ y) : RS H0 q k (upd m y v) H := ⟨(upd_ne h).trans x.mr, x.row, x.ext⟩
/-- row.append(number % 1013); number = number // 1013 -/
theorem RS.push (x : RS H0 q k m H) (hT : ∀ m H, U m H = S.seq (S.asg "number" (E.bin .FloorDiv (E.var "number") (E.const (.int 1013)))) R m H) (hn : m "number" = some (.int i)) (hk : k < 5000) (h : ∀ m' H', RS H0 q (k + 1) m' H' → (∃ i, m' "number" = some (.int i)) → Run (R m' H') Q) :
    Run (S.seq (S.expr (E.lmeth E.opAppend (E.var "row") [E.bin .Mod (E.var "number") (E.const (.int 1013))])) U m H) Q := by
  obtain ⟨ys, hy, hl⟩ := x.row
  refine .of (s_expr (e_app (e_var x.mr) hy (e_mod (j := 1013) (e_var hn) rfl (by decide)) hy (lt_big (by rw [List.length_map]; exact Nat.lt_of_le_of_lt hl (Nat.lt_trans hk (by decide))))) ((hT _ _).trans (s_asg (e_fdiv (j := 1013) (e_var hn) rfl ⟨by decide, by decide⟩) rfl))) (h _ _ ⟨(upd_ne (by decide)).trans x.mr, ⟨ys ++ [i.fmod 1013], (get_set hy).trans (by rw [List.map_append]; rfl), ?_⟩, x.ext.trans (.set (.head _))⟩ ⟨_, upd_self⟩)
  rw [List.length_append]; exact Nat.succ_le_succ hl
theorem row_body {c : Int} (x : RS H0 q k m H) (hm : m "cell" = some (.int c)) (hk : k < 2000) :
    Run ((S.seq (S.asg "number" (E.ife (T.cmp .GtE (E.var "cell") (E.const (.int 0))) (E.var "cell") (E.bin .Sub (E.const (.int 7)) (E.var "cell")))) (S.seq (S.expr (E.lmeth E.opAppend (E.var "row") [E.bin .Mod (E.var "number") (E.const (.int 1013))])) (S.seq (S.asg "number" (E.bin .FloorDiv (E.var "number") (E.const (.int 1013)))) (S.seq (S.forR1 (S.b1 "turn") (E.const (.int 30)) (S.seq (S.iff (T.cmp .Gt (E.var "number") (E.const (.int 0))) (S.seq (S.expr (E.lmeth E.opAppend (E.var "row") [E.bin .Mod (E.var "number") (E.const (.int 1013))])) (S.seq (S.asg "number" (E.bin .FloorDiv (E.var "number") (E.const (.int 1013)))) (S.nil))) (S.nil)) (S.nil))) (S.nil))))) m H)
      fun z => z.1 = Fl.next ∧ RS H0 q (k + 1 + 30) z.2.1 z.2.2 := by
  have go : ∀ n : Int, Run ((S.seq (S.expr (E.lmeth E.opAppend (E.var "row") [E.bin .Mod (E.var "number") (E.const (.int 1013))])) (S.seq (S.asg "number" (E.bin .FloorDiv (E.var "number") (E.const (.int 1013)))) (S.seq (S.forR1 (S.b1 "turn") (E.const (.int 30)) (S.seq (S.iff (T.cmp .Gt (E.var "number") (E.const (.int 0))) (S.seq (S.expr (E.lmeth E.opAppend (E.var "row") [E.bin .Mod (E.var "number") (E.const (.int 1013))])) (S.seq (S.asg "number" (E.bin .FloorDiv (E.var "number") (E.const (.int 1013)))) (S.nil))) (S.nil)) (S.nil))) (S.nil)))) (upd m "number" (.int n)) H) fun z => z.1 = Fl.next ∧ RS H0 q (k + 1 + 30) z.2.1 z.2.2 := fun n => by
    refine (x.loc (by decide)).push (fun _ _ => rfl) upd_self (Nat.lt_trans hk (by decide)) fun m1 H1 x1 n1 => ?_
    refine Run.forN (n := 30) (fun d m' H' => RS H0 q (k + 1 + d.length) m' H' ∧ ∃ i, m' "number" = some (.int i)) (by decide) rfl ⟨x1, n1⟩ (fun d j t m2 H2 e y => ?_) fun m2 H2 y => ⟨_, rfl, rfl, y.1⟩
    obtain ⟨i, hi⟩ := y.2
    have hi2 : upd m2 "turn" (.int j) "number" = some (.int i) := (upd_ne (by decide)).trans hi
    have hd : k + 1 + d.length < 5000 := Nat.lt_trans (Nat.add_lt_add (Nat.succ_lt_succ hk) (range_mem e).2) (by decide)
    rw [List.length_append]
    exact Run.iff (t_gt (e_var hi2) rfl) (fun _ => .of s_assoc ((y.1.loc (by decide)).push (R := S.seq S.nil S.nil) (fun _ _ => s_assoc) hi2 hd fun m3 H3 z nz => ⟨_, rfl, rfl, z, nz⟩)) fun _ => ⟨_, rfl, rfl, (y.1.loc (by decide)).weak (Nat.le_succ _), _, hi2⟩
  by_cases h : 0 ≤ c
  · exact .of (s_asg ((e_ifeT ((t_ge (i2 := 0) (e_var hm) rfl).trans (by rw [decide_eq_true h]))).trans (e_var hm)) rfl) (go c)
  · exact .of (s_asg ((e_ifeF ((t_ge (i2 := 0) (e_var hm) rfl).trans (by rw [decide_eq_false h]))).trans (e_sub (i1 := 7) rfl (e_var hm))) rfl) (go (7 - c))
structure NewI (H : Hp) (q : Nat) (H2 : Hp) : Prop where
  row : Ints H2 q
  ext : Ext H H2
  new : H.length ≤ q
theorem row_ok {xs : List Int} (hx : xs.length ≤ 63) : RunR (P.law_row [.frz (xs.map .int)] H) (NewI H) := by
  have e0 : Ext H (H ++ [.list []]) := .push
  have u := e_uptof (m := upd (args ["script"] [.frz (xs.map .int)]) "row" (.ref H.length)) (H := H ++ [.list []]) (a := E.var "script") (b := E.const (.int 40)) (n := 40) (e_var rfl) rfl (by rw [List.length_map]; exact Nat.le_of_lt (lt_big (Nat.lt_of_le_of_lt hx (by decide))))
  rw [← List.map_take] at u
  have hz : (xs.take 40).length ≤ 40 := List.length_take_le _ _
  have hne : (H ++ [O.list []]).length ∉ [H.length] := fun h => by rw [List.length_append] at h; exact absurd (List.mem_singleton.mp h) (Nat.succ_ne_self _)
  have gu : (H ++ [O.list []] ++ [O.list ((xs.take 40).map .int)])[(H ++ [O.list []]).length]? = some (.list ((xs.take 40).map .int)) := get_new
  have g0 : (H ++ [O.list []] ++ [O.list ((xs.take 40).map .int)])[H.length]? = some (.list []) := Ext.get .push get_new
  have e1 : Ext H (H ++ [O.list []] ++ [O.list ((xs.take 40).map .int)]) := e0.trans .push
  refine RunR_fn rfl (.of (s_asg e_list0 rfl) ?_)
  generalize (H ++ [O.list []]).length = c at *
  generalize H ++ [O.list []] ++ [O.list ((xs.take 40).map .int)] = A at *
  refine Run.forL (fun d => RS A H.length (31 * d.length)) u gu (fun d m H' h => h.ext.get hne gu) ⟨rfl, ⟨[], g0, Nat.zero_le _⟩, .refl⟩ (fun d a t m' H' e y => ?_) fun m' H' y => ?_
  · have hd : 31 * d.length < 2000 := Nat.lt_of_le_of_lt (Nat.mul_le_mul_left 31 (Nat.le_trans (Nat.le_of_lt (mid_lt e).1) hz)) (by decide)
    rw [List.length_append]
    exact (row_body (y.loc (by decide)) upd_self hd).mono fun z h => ⟨h.1, h.2.weak (by rw [Nat.add_assoc]; exact Nat.le_refl _)⟩
  · obtain ⟨ys, hy, hl⟩ := y.row
    have g3 : (H' ++ [O.list ((ys.map V.int).take 120)])[H'.length]? = some (.list ((ys.map V.int).take 120)) := get_new
    refine .of (s_asg (e_upto (n := 120) (e_var y.mr) rfl hy) (s_expr (e_rev (e_var upd_self) g3) rfl)) (Run.ret (e_var upd_self) ⟨H'.length, rfl, ⟨(ys.take 120).reverse, by rw [List.map_reverse, List.map_take]; exact get_set g3, ?_⟩, Ext.set_new ((ExtB.fresh (e1.any.trans y.ext) (Nat.le_refl _)).trans .push) (Nat.le_trans e1.2 y.ext.2), Nat.le_trans e1.2 y.ext.2⟩)
    rw [List.length_reverse]; exact Nat.lt_of_le_of_lt (List.length_take_le _ _) (by decide)
end
theorem fn_next {ps : List String} {b : Sx} {Xs : List V} {H H2 : Hp} {m : Loc} (hl : Xs.length = ps.length) (h : b (args ps Xs) H = some (.next, m, H2)) : fnOf ps b Xs H = some (.none, H2) := by unfold fnOf; rw [if_pos hl, h]; rfl
/-! ClauseCode(name, key, [..], wide) -/
theorem code_init_ok {H : Hp} {n k i w : V} : P.ClauseCode_init [.ref H.length, n, k, i, w] (H ++ [.inst C_ClauseCode []]) = some (.none, H ++ [.inst C_ClauseCode [("functor", n), ("key", k), ("instrs", i), ("used", w)]]) :=
  fn_next rfl (s_one (s_init rfl (by decide) (X := n) rfl rfl) (s_one (s_init rfl (show 1 < 50 by decide) (X := k) rfl rfl) (s_one (s_init rfl (show 2 < 50 by decide) (X := i) rfl rfl) (s_one (s_init rfl (show 3 < 50 by decide) (X := w) rfl rfl) rfl))))
/-! Symbols -/
noncomputable def SD (D : Dct) (n : Nat) : Prop := D = .emp ∨ ∃ f k, D = .S f k ∧ k ≤ n ∧ ∀ t, f t = none ∨ ∃ i : Int, f t = some (.int i)
noncomputable def fun2 (a w : Int) : V := .tup [.int a, .int w]
noncomputable def FD (D : Dct) (fl : List V) (n : Nat) : Prop := D = .emp ∨ ∃ f k, D = .T f k ∧ k ≤ n ∧ ∀ a w, f [a, w] = none ∨ ∃ i : Nat, f [a, w] = some (.int i) ∧ fl[i]? = some (fun2 a w)
theorem SD.weak {D : Dct} {n : Nat} (x : SD D n) : SD D (n + 1) := x.imp id fun ⟨f, k, a, b, c⟩ => ⟨f, k, a, Nat.le_succ_of_le b, c⟩
theorem FD.weak {D : Dct} {fl : List V} {n : Nat} (x : FD D fl n) : FD D fl (n + 1) := x.imp id fun ⟨f, k, a, b, c⟩ => ⟨f, k, a, Nat.le_succ_of_le b, c⟩
theorem SD.get {D : Dct} {n : Nat} (x : SD D n) (t : String) : ∃ y, ∃ i : Int, D.get (.str t) = some y ∧ y.getD (.int (-1)) = .int i := by
  rcases x with rfl | ⟨f, k, rfl, _, h⟩
  · exact ⟨none, -1, rfl, rfl⟩
  · exact (h t).elim (fun h => ⟨none, -1, congrArg some h, rfl⟩) fun ⟨i, h⟩ => ⟨_, i, congrArg some h, rfl⟩
theorem SD.put {D : Dct} {n : Nat} (x : SD D n) (t : String) (i : Int) (hn : n < 1000) : ∃ D', D.put (.str t) (.int i) = some D' ∧ SD D' (n + 1) := by
  have go : ∀ f : String → Option V, (∀ t, f t = none ∨ ∃ i : Int, f t = some (.int i)) → ∀ t', (if t' = t then some (V.int i) else f t') = none ∨ ∃ j : Int, (if t' = t then some (V.int i) else f t') = some (.int j) := fun f h t' => by
    by_cases e : t' = t
    · exact .inr ⟨i, if_pos e⟩
    · rw [if_neg e]; exact h t'
  rcases x with rfl | ⟨f, k, rfl, hk, h⟩
  · exact ⟨_, rfl, .inr ⟨_, _, rfl, Nat.le_add_left 1 n, go (fun _ => none) fun _ => .inl rfl⟩⟩
  · exact ⟨.S (fun j => if j = t then some (.int i) else f j) (k + 1), if_pos (e := Option.none) (lt_big (Nat.lt_of_le_of_lt hk (Nat.lt_trans hn (by decide)))), .inr ⟨_, _, rfl, Nat.succ_le_succ hk, go f h⟩⟩
theorem FD.get {D : Dct} {fl : List V} {n : Nat} (x : FD D fl n) (a w : Int) : ∃ y, D.get (fun2 a w) = some y ∧ (y = none ∨ ∃ i : Nat, y = some (.int i) ∧ fl[i]? = some (fun2 a w)) := by
  rcases x with rfl | ⟨f, k, rfl, _, h⟩
  · exact ⟨none, rfl, .inl rfl⟩
  · exact ⟨f [a, w], rfl, h a w⟩
theorem FD.put {D : Dct} {fl : List V} {n : Nat} (x : FD D fl n) (a w : Int) (hn : n < 1000) : ∃ D', D.put (fun2 a w) (.int fl.length) = some D' ∧ FD D' (fl ++ [fun2 a w]) (n + 1) := by
  have go : ∀ f : List Int → Option V, (∀ a w, f [a, w] = none ∨ ∃ i : Nat, f [a, w] = some (.int i) ∧ fl[i]? = some (fun2 a w)) → ∀ a' w', (if [a', w'] = [a, w] then some (V.int fl.length) else f [a', w']) = none ∨ ∃ i : Nat, (if [a', w'] = [a, w] then some (V.int fl.length) else f [a', w']) = some (.int i) ∧ (fl ++ [fun2 a w])[i]? = some (fun2 a' w') := fun f h a' w' => by
    by_cases e : [a', w'] = [a, w]
    · exact .inr ⟨fl.length, if_pos e, List.getElem?_concat_length.trans (by rw [(List.cons.inj e).1, (List.cons.inj (List.cons.inj e).2).1])⟩
    · rw [if_neg e]; exact (h a' w').imp id fun ⟨i, x, y⟩ => ⟨i, x, snoc_of y⟩
  rcases x with rfl | ⟨f, k, rfl, hk, h⟩
  · exact ⟨.T (fun j => if j = [a, w] then some (.int fl.length) else none) 1, rfl, .inr ⟨_, _, rfl, Nat.le_add_left 1 n, go (fun _ => none) fun _ _ => .inl rfl⟩⟩
  · exact ⟨.T (fun j => if j = [a, w] then some (.int fl.length) else f j) (k + 1), if_pos (e := Option.none) (lt_big (Nat.lt_of_le_of_lt hk (Nat.lt_trans hn (by decide)))), .inr ⟨_, _, rfl, Nat.succ_le_succ hk, go f h⟩⟩
noncomputable def sfs (b : Nat) : List (String × V) := [("texts", .ref (b + 1)), ("atom_numbers", .ref (b + 2)), ("functors", .ref (b + 3)), ("functor_numbers", .ref (b + 4))]
structure SB (b : Nat) (H0 : Hp) (n : Nat) (H : Hp) : Prop where
  obj : H[b]? = some (.inst C_Symbols (sfs b))
  texts : ∃ ts, H[b + 1]? = some (.list ts) ∧ ts.length ≤ n
  nums : ∃ D, H[b + 2]? = some (.dict D) ∧ SD D n
  funs : ∃ fl, H[b + 3]? = some (.list fl) ∧ fl.length ≤ n ∧ ∃ D, H[b + 4]? = some (.dict D) ∧ FD D fl n
  ext : Ext H0 H
  base : H0.length ≤ b
section
variable {H0 H : Hp} {b n : Nat} {m : Loc} {o k d : Ex} {D : Dct} {r : Nat} {K X : V} {y : Option V}
theorem SB.succ (x : SB b H0 n H) : SB b H0 (n + 1) H :=
  ⟨x.obj, let ⟨ts, a, c⟩ := x.texts; ⟨ts, a, Nat.le_succ_of_le c⟩, let ⟨D, a, c⟩ := x.nums; ⟨D, a, c.weak⟩, let ⟨fl, a, c, D, e, f⟩ := x.funs; ⟨fl, a, Nat.le_succ_of_le c, D, e, f.weak⟩, x.ext, x.base⟩
theorem SB.weak (x : SB b H0 n H) (j : Nat) : SB b H0 (n + j) H := by
  induction j with
  | zero => exact x
  | succ j ih => exact ih.succ
theorem at_ne {i j : Nat} (h : i ≠ j) : b + i ≠ b + j := fun e => h (Nat.add_left_cancel e)
theorem SB.sets (x : SB b H0 n H) {i j : Nat} {o1 o2 : O} : Ext H0 ((H.set (b + i) o1).set (b + j) o2) := (x.ext.set_new (Nat.le_trans x.base (Nat.le_add_right b i))).set_new (Nat.le_trans x.base (Nat.le_add_right b j))
theorem far {i j l : Nat} {o1 o2 o3 : O} (h1 : i ≠ l) (h2 : j ≠ l) (h : H[b + l]? = some o3) : ((H.set (b + i) o1).set (b + j) o2)[b + l]? = some o3 := (List.getElem?_set_ne (at_ne h2)).trans ((List.getElem?_set_ne (at_ne h1)).trans h)
theorem e_dget (ho : o m H = some (.ref r, H)) (hr : H[r]? = some (.dict D)) (hk : k m H = some (K, H)) (hd : d m H = some (X, H)) (hg : D.get K = some y) : E.dget o k d m H = some (y.getD X, H) := by
  unfold E.dget
  rw [ho, Option.bind_some]
  simp only [dct_ref hr, Option.bind_some, evs2 hk hd, hg, Option.map_some]
theorem atom_ok (x : SB b H0 n H) (t : String) (hn : n < 900) : RunA .int (P.Symbols_atom [.ref b, .str t] H) (fun _ => True) (SB b H0 (n + 1)) := by
  obtain ⟨ts, ht, lt⟩ := x.texts
  obtain ⟨D, hD, kD⟩ := x.nums
  obtain ⟨y, i, g1, g2⟩ := kD.get t
  obtain ⟨D', p1, p2⟩ := kD.put t ts.length (Nat.lt_trans hn (by decide))
  have nx : (H.set (b + 1) (.list (ts ++ [.str t])))[b + 2]? = some (.dict D) := (List.getElem?_set_ne (at_ne (by decide))).trans hD
  have y : SB b H0 (n + 1) ((H.set (b + 1) (.list (ts ++ [.str t]))).set (b + 2) (.dict D')) :=
    ⟨far (l := 0) (by decide) (by decide) x.obj, ⟨_, (List.getElem?_set_ne (at_ne (by decide))).trans (get_set ht), by rw [List.length_append]; exact Nat.succ_le_succ lt⟩, ⟨D', get_set nx, p2⟩,
      let ⟨fl, a, c, D, e, f⟩ := x.funs; ⟨fl, far (by decide) (by decide) a, Nat.le_succ_of_le c, D, far (by decide) (by decide) e, f.weak⟩, x.sets, x.base⟩
  refine RunA_fn rfl (.of (s_asg ((e_dget (X := .int (-1)) (e_attr (e_var rfl) x.obj rfl) hD (e_var rfl) rfl g1).trans (by rw [g2])) rfl) (Run.iff (t_ge (i2 := 0) (e_var upd_self) rfl) (fun _ => .of s_assoc (Run.ret (e_var upd_self) ⟨i, rfl, trivial, x.succ⟩)) fun _ => ?_))
  exact .of (s_asg (e_len (e_attr (e_var rfl) x.obj rfl) ht) (s_expr (e_app (e_attr (e_var rfl) x.obj rfl) ht (e_var rfl) ht (lt_big (Nat.lt_of_le_of_lt lt (Nat.lt_trans hn (by decide))))) (s_one (s_item (e_var upd_self) (e_attr (e_var rfl) ((List.getElem?_set_ne (at_ne (j := 0) (by decide))).trans x.obj) rfl) (e_var rfl) nx p1) rfl))) (Run.ret (e_var upd_self) ⟨ts.length, rfl, trivial, y⟩)
/-- a functor's number -/
structure SF (b : Nat) (H0 : Hp) (n : Nat) (w : Int) (i : Nat) (H : Hp) : Prop where
  sb : SB b H0 n H
  at_ : SymAt H b i w
noncomputable def RunF (t : Option (V × Hp)) (Q : Nat → Hp → Prop) : Prop := ∃ (i : Nat) (H2 : Hp), t = some (.int i, H2) ∧ Q i H2
theorem RunF.use {t : Option (V × Hp)} {Q : Nat → Hp → Prop} {G : Prop} (h : RunF t Q) (k : ∀ i H2, t = some (.int (i : Nat), H2) → Q i H2 → G) : G := let ⟨i, H2, e, q⟩ := h; k i H2 e q
theorem RunF_fn {b : Sx} {ps : List String} {Xs : List V} {H : Hp} {Q : Nat → Hp → Prop} (hl : Xs.length = ps.length) (h : Run (b (args ps Xs) H) fun z => ∃ i : Nat, z.1 = .ret (.int i) ∧ Q i z.2.2) : RunF (fnOf ps b Xs H) Q := by
  obtain ⟨⟨fl, m, H2⟩, e, q, rfl, p⟩ := h
  exact ⟨q, H2, by unfold fnOf; rw [if_pos hl, e]; rfl, p⟩
theorem SB.symAt (x : SB b H0 n H) {i : Nat} {a w : Int} {fl : List V} (h1 : H[b + 3]? = some (.list fl)) (h2 : fl[i]? = some (fun2 a w)) : SymAt H b i w := ⟨_, _, fl, .int a, x.obj, rfl, rfl, h1, h2⟩
theorem functor_ok (x : SB b H0 n H) (a w : Int) (hn : n < 900) : RunF (P.Symbols_functor [.ref b, .int a, .int w] H) (SF b H0 (n + 1) w) := by
  obtain ⟨fl, hf, lf, D, hD, kD⟩ := x.funs
  obtain ⟨y, g1, g2⟩ := kD.get a w
  obtain ⟨D', p1, p2⟩ := kD.put a w (Nat.lt_trans hn (by decide))
  have nx : (H.set (b + 3) (.list (fl ++ [fun2 a w])))[b + 4]? = some (.dict D) := (List.getElem?_set_ne (at_ne (by decide))).trans hD
  have f3 : ((H.set (b + 3) (.list (fl ++ [fun2 a w]))).set (b + 4) (.dict D'))[b + 3]? = some (.list (fl ++ [fun2 a w])) := (List.getElem?_set_ne (at_ne (by decide))).trans (get_set hf)
  have z : SB b H0 (n + 1) ((H.set (b + 3) (.list (fl ++ [fun2 a w]))).set (b + 4) (.dict D')) :=
    ⟨far (l := 0) (by decide) (by decide) x.obj, let ⟨ts, a, c⟩ := x.texts; ⟨ts, far (by decide) (by decide) a, Nat.le_succ_of_le c⟩, let ⟨D, a, c⟩ := x.nums; ⟨D, far (by decide) (by decide) a, c.weak⟩, ⟨_, f3, by rw [List.length_append]; exact Nat.succ_le_succ lf, D', get_set nx, p2⟩, x.sets, x.base⟩
  refine RunF_fn rfl (.of (s_asg (X := fun2 a w) (e_tup (evs2 (e_var rfl) (e_var rfl))) (s_asg (e_dget (X := .int (-1)) (e_attr (e_var rfl) x.obj rfl) hD (e_var upd_self) rfl g1) rfl)) ?_)
  rcases g2 with rfl | ⟨i, rfl, hi⟩
  · exact .of (s_iffF (t_ge (i2 := 0) (i1 := -1) (e_var upd_self) rfl) rfl) (.of (s_asg (e_len (e_attr (e_var rfl) x.obj rfl) hf) (s_expr (e_app (e_attr (e_var rfl) x.obj rfl) hf (e_var rfl) hf (lt_big (Nat.lt_of_le_of_lt lf (Nat.lt_trans hn (by decide))))) (s_one (s_item (e_var upd_self) (e_attr (e_var rfl) ((List.getElem?_set_ne (at_ne (j := 0) (by decide))).trans x.obj) rfl) (e_var rfl) nx p1) rfl))) (Run.ret (e_var upd_self) ⟨fl.length, rfl, z, z.symAt f3 List.getElem?_concat_length⟩))
  · exact .of (s_iffT ((t_ge (i2 := 0) (e_var upd_self) rfl).trans (by rw [decide_eq_true (Int.natCast_nonneg i)])) s_assoc) (Run.ret (e_var upd_self) ⟨i, rfl, x.succ, x.symAt hf hi⟩)
theorem func_ok (x : SB b H0 n H) (t : String) (w : Int) (hn : n < 800) : RunF (P.Symbols_func [.ref b, .str t, .int w] H) (SF b H0 (n + 2) w) :=
  (atom_ok x t (Nat.lt_trans hn (by decide))).use fun a H1 e1 _ y => (functor_ok y a w (Nat.lt_of_le_of_lt (Nat.succ_le_of_lt hn) (by decide))).use fun i H2 e2 z => RunF_fn rfl (Run.ret (e_meth2 (e_var rfl) x.obj rfl (e_meth1 (e_var rfl) x.obj rfl (e_var rfl) e1) (e_var rfl) e2) ⟨i, rfl, z⟩)
end
noncomputable def ats : List String := ["[]", ".", "{}", "-", "+", "*", "/", ",", "|", ";", "->", "\\+", ":-", "?-", "-->", "!", "true", "fail", "false", "call", "=", "^", "error", "", "end_of_file", "system", "$VAR", "catch", "throw"]
noncomputable def fus : List (String × Int) := [(".", 2), (",", 2), (";", 2), ("->", 2), ("\\+", 1), (":-", 2), (":-", 1), ("?-", 1), ("-->", 2), ("{}", 1), ("=", 2), ("^", 2), ("-", 1), ("-", 2), ("+", 2), ("/", 2), ("error", 2), ("$VAR", 1), ("catch", 3), ("throw", 1), ("!", 0), ("true", 0), ("fail", 0), ("false", 0), ("call", 1), ("call", 2), ("call", 3), ("call", 4), ("call", 5), ("call", 6), ("call", 7), ("call", 8)]
noncomputable def encS (p : String × Int) : V := .tup [.str p.1, .int p.2]
section
variable {H H1 : Hp} {m : Loc} {e : Ex} {x : String} {body R : Sx} {Q : Fl × Loc × Hp → Prop}
theorem e_call0 {f : Fn} : E.call f [] m H = f [] H := rfl
theorem fixed_ok : P.fixed_atoms [] H = some (.tup (ats.map .str), H) ∧ P.fixed_functors [] H = some (.tup (fus.map encS), H) := ⟨rfl, rfl⟩
theorem Run.forT {α : Type} {enc : α → V} {l : List α} (I : List α → Loc → Hp → Prop) (he : e m H = some (.tup (l.map enc), H1)) (i : I [] m H1)
    (step : ∀ d a t m H, l = d ++ a :: t → I d m H → Run (body (upd m x (enc a)) H) fun z => z.1 = .next ∧ I (d ++ [a]) z.2.1 z.2.2) (k : ∀ m H, I l m H → Run (R m H) Q) : Run (S.seq (S.forIn (S.b1 x) e body) R m H) Q :=
  .for_ (still := S.stillIs (.tup (l.map enc)) (l.map enc)) I (by unfold S.forIn; rw [he]; rfl) (fun _ _ _ _ => stillIs_tup _ _) i step k
/-- Symbols() -/
theorem symbols_new : RunV (E.new C_Symbols P.Symbols_init [] m H) (.ref H.length) (SB H.length H 200) := by
  have go : RunV (P.Symbols_init [.ref H.length] (H ++ [.inst C_Symbols []])) .none (SB H.length H 200) := by
    refine RunN_fn rfl (.of (s_one (s_init rfl (by decide) e_fresh rfl) (s_one (s_init rfl (show 1 < 50 by decide) e_freshD rfl) (s_one (s_init rfl (show 2 < 50 by decide) e_fresh rfl) (s_one (s_init rfl (show 3 < 50 by decide) e_freshD rfl) rfl)))) ?_)
    have y : SB H.length H 0 (H ++ [.inst C_Symbols (sfs H.length), .list [], .dict .emp, .list [], .dict .emp]) :=
      ⟨at_get 0, ⟨[], at_get 1, Nat.le_refl _⟩, ⟨.emp, at_get 2, .inl rfl⟩, ⟨[], at_get 3, Nat.le_refl _, .emp, at_get 4, .inl rfl⟩, .app, Nat.le_refl _⟩
    refine Run.forT (l := ats) (fun d m H' => m "self" = some (.ref H.length) ∧ SB H.length H d.length H') (e_call0.trans fixed_ok.1) ⟨rfl, y⟩ (fun d a t m' H' h z => ?_) fun m' H' z => ?_
    · have hd : d.length < 900 := Nat.lt_trans (mid_lt h).1 (by decide)
      have ms : upd m' "text" (.str a) "self" = some (.ref H.length) := (upd_ne (by decide)).trans z.1
      exact (atom_ok z.2 a hd).use fun i H2 e _ y => ⟨_, s_expr (e_meth1 (e_var ms) z.2.obj rfl (e_var upd_self) e) rfl, rfl, ms, by rw [List.length_append]; exact y⟩
    · refine Run.forT (l := fus) (fun d m H' => m "self" = some (.ref H.length) ∧ SB H.length H (29 + 2 * d.length) H') (e_call0.trans fixed_ok.2) z (fun d a t m' H' h z => ?_) fun m' H' z => ⟨_, rfl, rfl, z.2.weak 107⟩
      have hd : 29 + 2 * d.length < 800 := Nat.lt_of_le_of_lt (Nat.add_le_add_left (Nat.mul_le_mul_left 2 (Nat.le_of_lt (mid_lt h).1)) 29) (by decide)
      have ms : upd m' "row" (encS a) "self" = some (.ref H.length) := (upd_ne (by decide)).trans z.1
      exact (func_ok z.2 a.1 a.2 hd).use fun i H2 e y => ⟨_, s_expr (e_meth2 (e_var ms) z.2.obj rfl (e_itemv upd_self (tup_get (n := 0) (by decide) rfl)) (e_itemv upd_self (tup_get (n := 1) (by decide) rfl)) e) rfl, rfl, ms, by rw [List.length_append]; exact y.sb⟩
  exact go.use fun H2 e b => ⟨H2, e_new rfl e, b⟩
end
theorem pairs_flat (ps : List (Key × Int)) : flatsN 6 (ps.map encP) = true := flats_map (fun p => by obtain ⟨k, l⟩ := p; cases k <;> rfl) ps
theorem row_flat (r : Row) : flatN 8 r.enc = true := by
  cases r with
  | sw k ps d =>
    show (true && (flatsN 6 (ps.map encP) && (true && true))) = true
    rw [pairs_flat]; rfl
  | _ => rfl
theorem block_flat (B : List Row) : flatsN 8 (B.map Row.enc) = true := flats_map row_flat B
theorem lab_enc {r : Row} {l : Int} (h : r.enc = V.tup [.str "label", .int l]) : r = .lab l := by
  rcases isLab r with ⟨l', rfl⟩ | ⟨_, hw⟩
  · cases h; rfl
  · have := Row.get0 [] r
    rw [h] at this
    exact absurd (V.str.inj (Option.some.inj ((tup_get (n := 0) (by decide) rfl).symm.trans this))).symm hw
theorem ix_lab {l : Int} {tl : List Row} (hd : List Row) (h : ∀ r ∈ hd, r ≠ .lab l) : ixOf (.tup [.str "label", .int l]) ((hd ++ .lab l :: tl).map Row.enc) = some hd.length := by
  induction hd with
  | nil => exact if_pos (dec_eq_true_iff.mpr rfl)
  | cons r hd ih =>
    show (if dec (r.enc = _) = true then some 0 else (ixOf _ ((hd ++ .lab l :: tl).map Row.enc)).map (· + 1)) = _
    rw [if_neg (fun e => h r (.head _) (lab_enc (dec_eq_true_iff.mp e))), ih fun r hr => h r (.tail _ hr)]
    rfl
noncomputable def plainAt (B : List Row) (n j : Nat) : Bool := (B[j]?).any (fun r => !decide (r.word = "label")) && decide ((j : Int) < (n : Int))
section
variable {m : Loc} {H H1 H2 : Hp} {a b o : Ex} {r n i j : Nat} {vs ws : List V} {X : V} {s s' : String}
theorem t_nes (h : a m H = some (.str s, H1)) : T.cmp .NotEq a (E.const (.str s')) m H = some (!decide (s = s'), H1) := t_cmp h rfl (by unfold cmpV; rw [eqV_str]; rfl)
/-- the places of the rows that may be spoiled -/
theorem places_eq {bq : Nat} {B hd tl : List Row} (hb : H[bq]? = some (.list (B.map Row.enc))) (mb : m "block" = some (.ref bq)) (hz : B.length < 50000) (e : B = hd ++ .lab 0 :: tl) (h0 : ∀ r ∈ hd, r ≠ .lab 0) :
    E.compR ["block"] (S.b1 "place") (E.len (E.var "block")) (T.and [T.cmp .NotEq (E.item (E.item (E.var "block") (E.var "place")) (E.const (.int 0))) (E.const (.str "label")), T.cmp .Lt (E.var "place") (E.lmeth E.opIndex (E.var "block") [E.tup [E.const (.str "label"), E.const (.int 0)]])]) (E.var "place") m H =
      some (.ref H.length, H ++ [.list (nats ((List.range B.length).filter (plainAt B hd.length)))]) := by
  have hix : ixOf (.tup [.str "label", .int 0]) (B.map Row.enc) = some hd.length := by rw [e]; exact ix_lab hd h0
  refine compR_eq (k := B.length) ((e_len (e_var mb) hb).trans (by rw [List.length_map])) (Nat.lt_trans hz (by decide)) (turnsC_ok (Q := fun m' => m' "block" = some (.ref bq)) (yes_ok H) (List.range B.length) (fun j hj m' hm' => ?_) _ mb)
  have hj := List.mem_range.mp hj
  have hr : B[j]? = some B[j] := List.getElem?_eq_getElem hj
  have mb' : upd m' "place" (.int j) "block" = some (.ref bq) := (upd_ne (by decide)).trans hm'
  exact ⟨upd m' "place" (.int j), rfl, mb', (t_and2 (t_nes (e_item0 (e_itemvv mb' upd_self (block_get hb hr)) (Row.get0 H B[j]))) (t_lt (e_var upd_self) (e_index (e_var mb') hb (e_tup (evs2 rfl rfl)) rfl (block_flat B) hix))).trans (by unfold plainAt; rw [hr]; rfl), fun _ => e_var upd_self⟩
/-- block[:place] + [..] + block[k:] -/
theorem RunR.new {t : Option (V × Hp)} (h : t = some (.ref H.length, H ++ [.list vs])) : RunR t (NewL H vs) := ⟨_, _, h, .push, get_new, Nat.le_refl _⟩
theorem addl_ok (h : RunR (a m H) (NewL H vs)) (h2 : ∀ H1, Ext H H1 → RunR (b m H1) (NewL H1 ws)) (hb : vs.length + ws.length ≤ big) : RunR (E.bin .Add a b m H) (NewL H (vs ++ ws)) :=
  h.use fun p H1 e y => (h2 H1 y.ext).use fun q H2 e2 y2 => ⟨H2.length, H2 ++ [.list (vs ++ ws)], by unfold E.bin; rw [e, Option.bind_some, e2]; exact binV_lists (y2.ext.get y.list) y2.list hb, (y.ext.trans y2.ext).trans .push, get_new, Nat.le_trans y.ext.2 y2.ext.2⟩
theorem e_from (ha : a m H = some (.ref r, H1)) (hi : b m H1 = some (.int n, H2)) (hl : H2[r]? = some (.list vs)) : E.from_ a b m H = some (.ref H2.length, H2 ++ [.list (vs.drop n)]) := by
  unfold E.from_; rw [ha, Option.bind_some, hi]; show ((V.ref r).asL H2).bind _ = _; rw [V.asL_ref hl]; exact if_pos (e := Option.none) (Int.natCast_nonneg n)
theorem glue_len (hz : vs.length < 50000) (hn : ws.length < 10) : (vs.take i).length + ws.length ≤ big ∧ (vs.take i ++ ws).length + (vs.drop j).length ≤ big := by
  have h1 : (vs.take i).length ≤ 50000 := Nat.le_trans (List.length_take_le' _ _) (Nat.le_of_lt hz)
  have h2 : (vs.drop j).length ≤ 50000 := Nat.le_trans (by rw [List.length_drop]; exact Nat.sub_le _ _) (Nat.le_of_lt hz)
  rw [List.length_append]
  exact ⟨Nat.le_trans (Nat.add_le_add h1 (Nat.le_of_lt hn)) (by decide), Nat.le_trans (Nat.add_le_add (Nat.add_le_add h1 (Nat.le_of_lt hn)) h2) (by decide)⟩
theorem glue_ok {bq : Nat} {eL eN : Ex} (hb : H[bq]? = some (.list vs)) (mb : m "block" = some (.ref bq)) (mp : m "place" = some (.int i)) (hz : vs.length < 50000) (hn : ws.length < 10)
    (hL : ∀ H1, Ext H H1 → RunR (eL m H1) (NewL H1 ws)) (hN : ∀ H1, eN m H1 = some (.int j, H1)) :
    RunR (E.bin .Add (E.bin .Add (E.upto (E.var "block") (E.var "place")) eL) (E.from_ (E.var "block") eN) m H) (NewL H (vs.take i ++ ws ++ vs.drop j)) :=
  addl_ok (addl_ok (.new (e_upto (e_var mb) (e_var mp) hb)) hL (glue_len (j := 0) hz hn).1) (fun H1 x => .new (e_from (e_var mb) (hN H1) (x.get hb))) (glue_len hz hn).2
end
/-- a row to be spoiled -/
structure PX where
  B : List Row
  (n q bq j : Nat)
  old : Row
  (l d : Int)
  H0 : Hp
structure PX.Ok (X : PX) : Prop where
  ne : X.bq ≠ X.q
  at_ : X.B[X.j]? = some X.old
  lb : Lb X.n X.l
  dr : 0 ≤ X.d ∧ X.d < 5
  len : X.B.length < 50000
/-- the names at hand -/
structure PS (X : PX) (m : Loc) (H : Hp) : Prop where
  loc : ∀ p ∈ [("block", V.ref X.bq), ("row", .ref X.q), ("place", .int X.j), ("ins", X.old.enc), ("label", .int X.l), ("draw", .int X.d)], m p.1 = some p.2
  hb : H[X.bq]? = some (.list (X.B.map Row.enc))
  ch : Ch X.q X.H0 H
structure Sp (X : PX) (q' : Nat) (H2 : Hp) : Prop where
  new : ∃ new, Spoil X.n X.old new ∧ H2[q']? = some (.list ((X.B.take X.j ++ (new ++ X.B.drop (X.j + 1))).map Row.enc))
  ch : Ch X.q X.H0 H2
  ne : q' ≠ X.q
noncomputable def Rt (t : Option (Fl × Loc × Hp)) (Q : Nat → Hp → Prop) : Prop := Run t fun z => ∃ q, z.1 = .ret (.ref q) ∧ Q q z.2.2
section
variable {X : PX} {m : Loc} {H H1 : Hp} {a b : Ex} {n : Nat} {v1 v2 vs : List V}
theorem Rt.stop {A R : Sx} {Q : Nat → Hp → Prop} (h : Rt (A m H) Q) : Rt (S.seq A R m H) Q := let ⟨⟨fl, m1, H1⟩, e, q, hq, h⟩ := h; ⟨_, s_stop (e.trans (by rw [show fl = _ from hq])), q, rfl, h⟩
theorem PS.mb (x : PS X m H) : m "block" = some (.ref X.bq) := x.loc ("block", .ref X.bq) (.head _)
theorem PS.mr (x : PS X m H) : m "row" = some (.ref X.q) := x.loc ("row", .ref X.q) (.tail _ (.head _))
theorem PS.mp (x : PS X m H) : m "place" = some (.int X.j) := x.loc ("place", .int X.j) (.tail _ (.tail _ (.head _)))
theorem PS.mi (x : PS X m H) : m "ins" = some X.old.enc := x.loc ("ins", X.old.enc) (.tail _ (.tail _ (.tail _ (.head _))))
theorem PS.ml (x : PS X m H) : m "label" = some (.int X.l) := x.loc ("label", .int X.l) (.tail _ (.tail _ (.tail _ (.tail _ (.head _)))))
theorem PS.md (x : PS X m H) : m "draw" = some (.int X.d) := x.loc ("draw", .int X.d) (.tail _ (.tail _ (.tail _ (.tail _ (.tail _ (.head _))))))
theorem PS.upd (x : PS X m H) {y : String} {v : V} (h : y ∉ ["block", "row", "place", "ins", "label", "draw"]) : PS X (upd m y v) H :=
  have k : ∀ p ∈ [("block", V.ref X.bq), ("row", .ref X.q), ("place", .int X.j), ("ins", X.old.enc), ("label", .int X.l), ("draw", .int X.d)], p.1 ∈ ["block", "row", "place", "ins", "label", "draw"] := fun _ hp => List.mem_map_of_mem (f := Prod.fst) hp
  ⟨fun p hp => (upd_ne (fun (e : p.1 = y) => h (e ▸ k p hp))).trans (x.loc p hp), x.hb, x.ch⟩
theorem PS.draws (x : PS X m H) (ok : X.Ok) (y : Ch X.q H H1) : PS X m H1 := ⟨x.loc, y.ext.get (fun h => ok.ne (List.mem_singleton.mp h)) x.hb, x.ch.trans y⟩
theorem PS.ext (x : PS X m H) (y : Ext H H1) : PS X m H1 := ⟨x.loc, y.get x.hb, x.ch.post y⟩
theorem PS.next (x : PS X m H) : ∀ H1, (E.bin .Add (E.var "place") (E.const (.int 1))) m H1 = some (.int ((X.j + 1 : Nat) : Int), H1) := fun H1 => (e_add (i2 := 1) (e_var x.mp) rfl).trans (by rw [Int.natCast_add]; rfl)
theorem PS.glue (x : PS X m H) (ok : X.Ok) {new new' : List Row} {eL eN : Ex} {k : Nat} (hn : new.length < 10) (hL : ∀ H1, Ext H H1 → RunR (eL m H1) (NewL H1 (new.map Row.enc))) (hN : ∀ H1, eN m H1 = some (.int k, H1))
    (hs : Spoil X.n X.old new') (e : new ++ X.B.drop k = new' ++ X.B.drop (X.j + 1)) :
    Rt (S.seq (S.ret (E.bin .Add (E.bin .Add (E.upto (E.var "block") (E.var "place")) eL) (E.from_ (E.var "block") eN))) S.nil m H) (Sp X) :=
  (glue_ok x.hb x.mb x.mp (by rw [List.length_map]; exact ok.len) (by rw [List.length_map]; exact hn) hL hN).use fun q' H2 e2 y => Run.ret e2 ⟨q', rfl, ⟨new', hs, y.list.trans (by rw [← e, List.map_append, List.map_append, List.map_take, List.map_drop, List.append_assoc])⟩, x.ch.post y.ext, fun h => Nat.lt_irrefl _ (Nat.lt_of_lt_of_le x.ch.row.lt (h ▸ y.new))⟩
theorem e_addt (h : a m H = some (.tup v1, H)) (h2 : b m H = some (.tup v2, H)) (hb : v1.length + v2.length < 100000) : E.bin .Add a b m H = some (.tup (v1 ++ v2), H) := by unfold E.bin; rw [h, Option.bind_some, h2]; exact binV_tups (Nat.le_of_lt (lt_big hb))
theorem e_tfrom (h : a m H = some (.tup vs, H1)) (hn : n ≤ vs.length) (hb : vs.length < 100000) : E.tfrom a n m H = some (.tup (vs.drop n), H1) := by unfold E.tfrom; rw [h]; exact if_pos ⟨hn, Nat.le_of_lt (lt_big hb)⟩
/-- try, retry, trust: the label is another -/
theorem PS.one (x : PS X m H) (ok : X.Ok) {new : Row} (h : X.old.enc = .tup vs) (h2 : 2 ≤ vs.length) (h3 : 2 + vs.length < 100000) (hv : V.tup ([.str X.old.word, .int X.l] ++ vs.drop 2) = new.enc) (hs : Spoil X.n X.old [new]) :
    Rt (S.seq (S.ret (E.bin .Add (E.bin .Add (E.upto (E.var "block") (E.var "place")) (E.list [E.bin .Add (E.tup [E.item (E.var "ins") (E.const (.int 0)), E.var "label"]) (E.tfrom (E.var "ins") 2)])) (E.from_ (E.var "block") (E.bin .Add (E.var "place") (E.const (.int 1)))))) (S.nil) m H) (Sp X) :=
  x.glue ok (new := [new]) (show 1 < 10 by decide) (fun H1 _ => .new (e_list (evs1 ((e_addt (e_tup (evs2 (e_itemv x.mi (Row.get0 H1 X.old)) (e_var x.ml))) (e_tfrom (e_var (x.mi.trans (by rw [h]))) h2 (Nat.lt_of_le_of_lt (Nat.le_add_left _ 2) h3)) (Nat.lt_of_le_of_lt (Nat.add_le_add_left (by rw [List.length_drop]; exact Nat.sub_le _ _) 2) h3)).trans (by rw [hv]))))) x.next hs rfl
end
theorem drop_at {B : List Row} {j : Nat} {old : Row} (h : B[j]? = some old) : B.drop j = old :: B.drop (j + 1) := by
  obtain ⟨hj, rfl⟩ := List.getElem?_eq_some_iff.mp h
  exact List.drop_eq_getElem_cons hj
theorem map_erase {α β : Type} (f : α → β) (l : List α) (i : Nat) : (l.eraseIdx i).map f = (l.map f).eraseIdx i := by
  induction l generalizing i with
  | nil => rfl
  | cons x l ih => cases i with
    | zero => rfl
    | succ i => exact congrArg (f x :: ·) (ih i)
section
variable {m : Loc} {H H1 H2 H3 : Hp} {a b o e i : Ex} {r n : Nat} {vs : List V} {Y : V}
theorem e_mklist (h : a m H = some (.tup vs, H1)) (hb : vs.length < 100000) : E.mklist a m H = some (.ref H1.length, H1 ++ [.list vs]) := by unfold E.mklist; rw [h]; show (if vs.length ≤ big then some vs else Option.none).map _ = _; rw [if_pos (Nat.le_of_lt (lt_big hb))]; rfl
theorem s_itemL (h : e m H = some (Y, H1)) (ho : o m H1 = some (.ref r, H2)) (hi : i m H2 = some (.int n, H3)) (hl : H3[r]? = some (.list vs)) (hn : n < vs.length) : S.asgItem o i e m H = some (.next, m, H3.set r (.list (vs.set n Y))) := by
  unfold S.asgItem putI
  rw [h, Option.bind_some, ho, Option.bind_some, hi, Option.bind_some]
  show (((H3[r]?.bind (putO (.int n) Y)).map fun o => H3.set r o).map _) = _
  rw [hl]
  show (((((pos? n vs.length).map fun j => O.list (vs.set j Y))).map fun o => H3.set r o).map _) = _
  rw [show pos? n vs.length = some n from if_pos ⟨Int.natCast_nonneg n, Int.ofNat_lt.mpr hn⟩]
  rfl
theorem e_popk (ho : o m H = some (.ref r, H1)) (h0 : H1[r]? = some (.list vs)) (hi : i m H1 = some (.int n, H1)) (hn : vs[n]? = some Y) : E.lmeth E.opPop o [i] m H = some (Y, H1.set r (.list (vs.eraseIdx n))) := by
  unfold E.lmeth
  rw [ho, Option.bind_some]
  simp only [lst_ref h0, Option.bind_some, evs1 hi]
  refine (if_pos (e := Option.none) (Int.natCast_nonneg n)).trans ?_
  rw [Int.toNat_natCast, hn]
end
theorem lt4 {i : Nat} (h : i < 4) : i = 0 ∨ i = 1 ∨ i = 2 ∨ i = 3 := by omega
theorem swt_set {n i : Nat} {l v c li s : Int} (hi : i < 4) (h : Lb n l) : ∃ new, Spoil n (.swt v c li s) [new] ∧ V.tup ([V.str "switch_on_term", .int v, .int c, .int li, .int s].set (1 + i) (.int l)) = new.enc := by
  rcases lt4 hi with rfl | rfl | rfl | rfl
  · exact ⟨.swt l c li s, .swt (.inr h) (.inl rfl) (.inl rfl) (.inl rfl), rfl⟩
  · exact ⟨.swt v l li s, .swt (.inl rfl) (.inr h) (.inl rfl) (.inl rfl), rfl⟩
  · exact ⟨.swt v c l s, .swt (.inl rfl) (.inl rfl) (.inr h) (.inl rfl), rfl⟩
  · exact ⟨.swt v c li l, .swt (.inl rfl) (.inl rfl) (.inl rfl) (.inr h), rfl⟩
section
variable {X : PX} {m : Loc} {H : Hp}
/-- a row of the chain twice -/
theorem PS.twice (x : PS X m H) (ok : X.Ok) (h : Spoil X.n X.old [X.old, X.old]) :
    Rt (S.seq (S.ret (E.bin .Add (E.bin .Add (E.upto (E.var "block") (E.var "place")) (E.list [E.var "ins"])) (E.from_ (E.var "block") (E.var "place")))) (S.nil) m H) (Sp X) :=
  x.glue ok (new := [X.old]) (show 1 < 10 by decide) (fun H1 _ => .new (e_list (evs1 (e_var x.mi)))) (fun H1 => e_var x.mp) h (by rw [drop_at ok.at_]; rfl)
/-- a label of the switch on the term -/
theorem PS.term (x : PS X m H) (ok : X.Ok) {v c li s : Int} (h : X.old = .swt v c li s) :
    Rt ((S.seq (S.asg "parts" (E.mklist (E.var "ins"))) (S.seq (S.asgItem (E.var "parts") (E.bin .Add (E.const (.int 1)) (E.bin .Mod (E.var "draw") (E.const (.int 4)))) (E.var "label")) (S.seq (S.ret (E.bin .Add (E.bin .Add (E.upto (E.var "block") (E.var "place")) (E.list [E.mktup (E.var "parts")])) (E.from_ (E.var "block") (E.bin .Add (E.var "place") (E.const (.int 1)))))) (S.nil)))) m H) (Sp X) := by
  have d4 := fmod_lt (a := X.d) (b := 4) (by decide)
  obtain ⟨i, hi⟩ := Int.eq_ofNat_of_zero_le d4.1
  have i4 : i < 4 := Int.ofNat_lt.mp (hi ▸ d4.2)
  obtain ⟨new, hs, hn⟩ := swt_set (v := v) (c := c) (li := li) (s := s) i4 ok.lb
  have mi : m "ins" = some (.tup [.str "switch_on_term", .int v, .int c, .int li, .int s]) := x.mi.trans (by rw [h]; rfl)
  have g1 : (H ++ [O.list [.str "switch_on_term", .int v, .int c, .int li, .int s]])[H.length]? = some (.list [.str "switch_on_term", .int v, .int c, .int li, .int s]) := get_new
  have y := (x.ext (Ext.set_new (H := H) (o := .list ([.str "switch_on_term", .int v, .int c, .int li, .int s].set (1 + i) (.int X.l))) (.push (o := .list [.str "switch_on_term", .int v, .int c, .int li, .int s])) (Nat.le_refl _))).upd (y := "parts") (v := .ref H.length) (by decide)
  refine Run.of (s_asg (e_mklist (e_var mi) (show 5 < 100000 by decide)) (s_one (s_itemL (n := 1 + i) (e_var ((upd_ne (by decide)).trans x.ml)) (e_var upd_self) ((e_add (i1 := 1) rfl (e_mod (j := 4) (e_var ((upd_ne (by decide)).trans x.md)) rfl (by decide))).trans (by rw [hi]; rfl)) g1 (Nat.add_lt_add_left i4 1)) rfl)) ?_
  have g2 := get_set (o := .list ([V.str "switch_on_term", .int v, .int c, .int li, .int s].set (1 + i) (.int X.l))) g1
  exact y.glue ok (new := [new]) (show 1 < 10 by decide) (fun H1 e => .new ((e_list (evs1 (e_mktup (e_var upd_self) (e.get g2)))).trans (by rw [hn]; rfl))) y.next (h ▸ hs) rfl
/-- a table: its default, or one of its pairs -/
theorem PS.table (x : PS X m H) (ok : X.Ok) {k : Kind} {ps : List (Key × Int)} {df : Int} (h : X.old = .sw k ps df) (hps : ps ≠ []) (hlen : ps.length < 100) :
    Rt ((S.seq (S.iff (T.cmp .Eq (E.var "draw") (E.const (.int 0))) (S.seq (S.ret (E.bin .Add (E.bin .Add (E.upto (E.var "block") (E.var "place")) (E.list [E.tup [E.item (E.var "ins") (E.const (.int 0)), E.item (E.var "ins") (E.const (.int 1)), E.var "label"]])) (E.from_ (E.var "block") (E.bin .Add (E.var "place") (E.const (.int 1)))))) (S.nil)) (S.nil)) (S.seq (S.asg "pairs" (E.mklist (E.item (E.var "ins") (E.const (.int 1))))) (S.seq (S.asg "at" (E.bin .Mod (E.call P.law_next [E.var "row"]) (E.len (E.var "pairs")))) (S.seq (S.iff (T.cmp .Lt (E.var "draw") (E.const (.int 3))) (S.seq (S.asgItem (E.var "pairs") (E.var "at") (E.tup [E.item (E.item (E.var "pairs") (E.var "at")) (E.const (.int 0)), E.var "label"])) (S.nil)) (S.seq (S.expr (E.lmeth E.opPop (E.var "pairs") [E.var "at"])) (S.nil))) (S.seq (S.ret (E.bin .Add (E.bin .Add (E.upto (E.var "block") (E.var "place")) (E.list [E.tup [E.item (E.var "ins") (E.const (.int 0)), E.mktup (E.var "pairs"), E.item (E.var "ins") (E.const (.int 2))]])) (E.from_ (E.var "block") (E.bin .Add (E.var "place") (E.const (.int 1)))))) (S.nil)))))) m H)
      (Sp X) := by
  have i0 : ∀ {m : Loc} {H : Hp}, m "ins" = some X.old.enc → E.item (E.var "ins") (E.const (.int 0)) m H = some (.str (if k = .co then "switch_on_constant" else "switch_on_structure"), H) := fun h1 => e_itemv (h1.trans (congrArg (fun r : Row => some r.enc) h)) (tup_get (n := 0) (by decide) rfl)
  have i1 : ∀ {m : Loc} {H : Hp}, m "ins" = some X.old.enc → E.item (E.var "ins") (E.const (.int 1)) m H = some (.tup (ps.map encP), H) := fun h1 => e_itemv (h1.trans (congrArg (fun r : Row => some r.enc) h)) (tup_get (n := 1) (by decide) rfl)
  have i2 : ∀ {m : Loc} {H : Hp}, m "ins" = some X.old.enc → E.item (E.var "ins") (E.const (.int 2)) m H = some (.int df, H) := fun h1 => e_itemv (h1.trans (congrArg (fun r : Row => some r.enc) h)) (tup_get (n := 2) (by decide) rfl)
  refine Run.iff (t_eqi (e_var x.md)) (fun _ => Rt.stop ?_) fun _ => ?_
  · exact x.glue ok (new := [.sw k ps X.l]) (show 1 < 10 by decide) (fun H1 _ => .new (e_list (evs1 (e_tup (evs3 (i0 x.mi) (i1 x.mi) (e_var x.ml)))))) x.next (h ▸ .sw (.inr ok.lb) fun p hp => .inl hp) rfl
  have hz : (ps.map encP).length < 100000 := by rw [List.length_map]; exact Nat.lt_trans hlen (by decide)
  have g1 : (H ++ [O.list (ps.map encP)])[H.length]? = some (.list (ps.map encP)) := get_new
  have hq : H.length ∉ [X.q] := fun e => Nat.lt_irrefl _ (List.mem_singleton.mp e ▸ x.ch.row.lt)
  have y1 := (x.ext (.push (o := .list (ps.map encP)))).upd (y := "pairs") (v := .ref H.length) (by decide)
  refine .of (s_asg (e_mklist (i1 x.mi) hz) rfl) ((mod_ok (n := ps.length) (e := E.len (E.var "pairs")) (Int.natCast_pos.mpr (List.length_pos_iff.mpr hps)) y1.ch.row y1.mr fun H' e => (e_len (e_var upd_self) (e.get hq g1)).trans (by rw [List.length_map])).use fun j H2 e hj y => .of (s_asg e rfl) ?_)
  obtain ⟨i, rfl⟩ := Int.eq_ofNat_of_zero_le hj.1
  have hi : i < ps.length := Int.ofNat_lt.mp hj.2
  have g2 := y.ext.get hq g1
  have z := (y1.draws ok y).upd (y := "at") (v := .int (Int.ofNat i)) (by decide)
  have mp : Mine.upd (Mine.upd m "pairs" (.ref H.length)) "at" (.int (Int.ofNat i)) "pairs" = some (.ref H.length) := rfl
  have ma : Mine.upd (Mine.upd m "pairs" (.ref H.length)) "at" (.int (Int.ofNat i)) "at" = some (.int (Int.ofNat i)) := rfl
  have lq : H.length ≤ H2.length := Nat.le_trans (by rw [List.length_append]; exact Nat.le_add_right _ _) y.ext.2
  clear y1 e y g1
  generalize Mine.upd (Mine.upd m "pairs" (.ref H.length)) "at" (.int (Int.ofNat i)) = m2 at *
  have hge : (ps.map encP)[i]? = some (encP ps[i]) := by rw [List.getElem?_map, List.getElem?_eq_getElem hi]; rfl
  -- the new pairs
  have fin : ∀ ps' : List (Key × Int), (∀ p ∈ ps', p ∈ ps ∨ (Lb X.n p.2 ∧ ∃ q ∈ ps, q.1 = p.1)) → Rt (S.seq (S.ret (E.bin .Add (E.bin .Add (E.upto (E.var "block") (E.var "place")) (E.list [E.tup [E.item (E.var "ins") (E.const (.int 0)), E.mktup (E.var "pairs"), E.item (E.var "ins") (E.const (.int 2))]])) (E.from_ (E.var "block") (E.bin .Add (E.var "place") (E.const (.int 1)))))) (S.nil) m2 (H2.set H.length (.list (ps'.map encP)))) (Sp X) := fun ps' hall => by
    have w : PS X m2 (H2.set H.length (.list (ps'.map encP))) := by
      refine ⟨z.loc, (List.getElem?_set_ne fun e => ?_).trans z.hb, ⟨z.ch.row.ext (S := [H.length]) (.set (.head _)) fun e => hq (List.mem_singleton.mpr (List.mem_singleton.mp e).symm), ?_⟩⟩
      · exact Nat.lt_irrefl _ (e ▸ lt_of x.hb)
      · exact ((z.ch.ext.weak fun s hs => .inl (.tail _ hs)).trans (.set (.head _))).fresh x.ch.ext.2
    exact w.glue ok (new := [.sw k ps' df]) (show 1 < 10 by decide) (fun H1 e => .new (e_list (evs1 (e_tup (evs3 (i0 z.mi) (e_mktup (e_var mp) (e.get (get_set g2))) (i2 z.mi)))))) w.next (h ▸ .sw (.inl rfl) hall) rfl
  refine Run.iff (t_lt (e_var z.md) rfl) (fun _ => .of (s_assoc.trans (s_one (s_itemL (n := i) (e_tup (evs2 (e_item (e_itemvv mp ma (list_get g2 hge)) rfl (tup_get (n := 0) (by decide) rfl)) (e_var z.ml))) (e_var mp) (e_var ma) g2 (by rw [List.length_map]; exact hi)) rfl)) ?_) fun _ => .of (s_assoc.trans (s_expr (e_popk (n := i) (e_var mp) g2 (e_var ma) hge) rfl)) ?_
  · rw [show (ps.map encP).set i (.tup [ps[i].1.argV, .int X.l]) = (ps.set i (ps[i].1, X.l)).map encP from (List.map_set (f := encP) (a := (ps[i].1, X.l))).symm]
    exact fin _ fun p hp => (List.mem_or_eq_of_mem_set hp).imp id fun (e : p = _) => by subst e; exact ⟨ok.lb, _, List.getElem_mem hi, rfl⟩
  · rw [← map_erase]
    exact fin _ fun p hp => .inl (List.mem_of_mem_eraseIdx hp)
end
section
variable {H H1 : Hp} {m : Loc} {a : Ex} {es : List Ex} {s : String} {ss : List String} {q : Nat}
theorem place_ok {pl : List Nat} {pq : Nat} (x : Ints H q) (g : H[pq]? = some (.list (nats pl))) (hq : pq ≠ q) (hp : 0 < pl.length) (mr : m "row" = some (.ref q)) (mp : m "places" = some (.ref pq)) :
    RunA (fun j : Nat => V.int j) (E.item (E.var "places") (E.bin .Mod (E.call P.law_next [E.var "row"]) (E.len (E.var "places"))) m H) (· ∈ pl) (Ch q H) := by
  have hq : pq ∉ [q] := fun h => hq (List.mem_singleton.mp h)
  refine (mod_ok (m := m) (n := pl.length) (e := E.len (E.var "places")) (Int.natCast_pos.mpr hp) x mr fun H' e => (e_len (e_var mp) (e.get hq g)).trans (by rw [nats_len])).use fun i H2 e hi y => ?_
  obtain ⟨j, rfl⟩ := Int.eq_ofNat_of_zero_le hi.1
  have hj : j < pl.length := Int.ofNat_lt.mp hi.2
  exact ⟨pl[j], H2, e_item (e_var mp) e (list_get (y.ext.get hq g) (by unfold nats; rw [List.getElem?_map, List.getElem?_eq_getElem hj]; rfl)), List.getElem_mem hj, y⟩
theorem ar_lb {n : Nat} {i : Int} (h : 0 ≤ i ∧ i < (n : Int) + 1) : Lb n (i - 1) := ⟨by omega, by omega⟩
theorem label_ok {n : Nat} (x : Ints H q) (mr : m "row" = some (.ref q)) (mn : m "many" = some (.int n)) :
    RunA .int (E.bin .Sub (E.bin .Mod (E.call P.law_next [E.var "row"]) (E.bin .Add (E.var "many") (E.const (.int 1)))) (E.const (.int 1)) m H) (Lb n) (Ch q H) :=
  (mod_ok (m := m) (n := (n : Int) + 1) (e := E.bin .Add (E.var "many") (E.const (.int 1))) (Int.lt_add_one_of_le (Int.natCast_nonneg n)) x mr fun H' _ => e_add (i2 := 1) (e_var mn) rfl).use fun i H2 e hi y => ⟨i - 1, H2, e_sub (i2 := 1) e rfl, ar_lb hi, y⟩
end
/-- what comes of a row -/
theorem PS.spoil {X : PX} {m : Loc} {H : Hp} {keys : List Key} (x : PS X m H) (ok : X.Ok) (hok : RowOk keys X.old) (hl : ∀ l, X.old ≠ .lab l) :
    Rt (S.seq (S.iff (T.cmp .In (E.item (E.var "ins") (E.const (.int 0))) (E.tup [E.const (.str "switch_on_constant"), E.const (.str "switch_on_structure")])) (S.seq (S.iff (T.cmp .Eq (E.var "draw") (E.const (.int 0))) (S.seq (S.ret (E.bin .Add (E.bin .Add (E.upto (E.var "block") (E.var "place")) (E.list [E.tup [E.item (E.var "ins") (E.const (.int 0)), E.item (E.var "ins") (E.const (.int 1)), E.var "label"]])) (E.from_ (E.var "block") (E.bin .Add (E.var "place") (E.const (.int 1)))))) (S.nil)) (S.nil)) (S.seq (S.asg "pairs" (E.mklist (E.item (E.var "ins") (E.const (.int 1))))) (S.seq (S.asg "at" (E.bin .Mod (E.call P.law_next [E.var "row"]) (E.len (E.var "pairs")))) (S.seq (S.iff (T.cmp .Lt (E.var "draw") (E.const (.int 3))) (S.seq (S.asgItem (E.var "pairs") (E.var "at") (E.tup [E.item (E.item (E.var "pairs") (E.var "at")) (E.const (.int 0)), E.var "label"])) (S.nil)) (S.seq (S.expr (E.lmeth E.opPop (E.var "pairs") [E.var "at"])) (S.nil))) (S.seq (S.ret (E.bin .Add (E.bin .Add (E.upto (E.var "block") (E.var "place")) (E.list [E.tup [E.item (E.var "ins") (E.const (.int 0)), E.mktup (E.var "pairs"), E.item (E.var "ins") (E.const (.int 2))]])) (E.from_ (E.var "block") (E.bin .Add (E.var "place") (E.const (.int 1)))))) (S.nil)))))) (S.nil)) (S.seq (S.iff (T.cmp .Eq (E.item (E.var "ins") (E.const (.int 0))) (E.const (.str "switch_on_term"))) (S.seq (S.asg "parts" (E.mklist (E.var "ins"))) (S.seq (S.asgItem (E.var "parts") (E.bin .Add (E.const (.int 1)) (E.bin .Mod (E.var "draw") (E.const (.int 4)))) (E.var "label")) (S.seq (S.ret (E.bin .Add (E.bin .Add (E.upto (E.var "block") (E.var "place")) (E.list [E.mktup (E.var "parts")])) (E.from_ (E.var "block") (E.bin .Add (E.var "place") (E.const (.int 1)))))) (S.nil)))) (S.nil)) (S.seq (S.iff (T.and [T.cmp .In (E.item (E.var "ins") (E.const (.int 0))) (E.tup [E.const (.str "retry"), E.const (.str "trust")]), T.cmp .Eq (E.var "draw") (E.const (.int 4))]) (S.seq (S.ret (E.bin .Add (E.bin .Add (E.upto (E.var "block") (E.var "place")) (E.list [E.var "ins"])) (E.from_ (E.var "block") (E.var "place")))) (S.nil)) (S.nil)) (S.seq (S.ret (E.bin .Add (E.bin .Add (E.upto (E.var "block") (E.var "place")) (E.list [E.bin .Add (E.tup [E.item (E.var "ins") (E.const (.int 0)), E.var "label"]) (E.tfrom (E.var "ins") 2)])) (E.from_ (E.var "block") (E.bin .Add (E.var "place") (E.const (.int 1)))))) (S.nil)))) m H) (Sp X) := by
  have w := Row.get0 H X.old
  have t1 := t_ins (ss := ["switch_on_constant", "switch_on_structure"]) (es := [E.const (.str "switch_on_constant"), E.const (.str "switch_on_structure")]) (e_itemv x.mi w) rfl
  have t2 := t_eqs (s' := "switch_on_term") (e_itemv x.mi w)
  have t3 := t_and2 (t_ins (ss := ["retry", "trust"]) (es := [E.const (.str "retry"), E.const (.str "trust")]) (e_itemv x.mi w) rfl) (t_eqi (j := 4) (e_var x.md))
  have lb := ok.lb
  have one := fun {vs new} => x.one ok (vs := vs) (new := new)
  have two := x.twice ok
  have tab := fun {k ps df} => x.table ok (k := k) (ps := ps) (df := df)
  have ter := fun {v c li s} => x.term ok (v := v) (c := c) (li := li) (s := s)
  clear x ok w
  generalize X.old = old at *
  cases old with
  | lab l' => exact absurd rfl (hl l')
  | getc p => exact hok.elim
  | proceed => exact hok.elim
  | sw k pp df =>
    have hw : decide ((Row.sw k pp df).word ∈ ["switch_on_constant", "switch_on_structure"]) = true := by unfold Row.word; dsimp only; split <;> decide
    exact .of (s_iffT (t1.trans (by rw [hw])) rfl) (Rt.stop (tab rfl hok.1.2.1 hok.2))
  | swt v c li s => exact .of (s_skip t1 (s_iffT t2 rfl)) (Rt.stop (ter rfl))
  | try_ l0 a0 => exact .of (s_skip t1 (s_skip t2 (s_skip t3 rfl))) (one (vs := [.str "try", .int l0, .int a0]) (new := .try_ X.l a0) rfl (show 2 ≤ 3 by decide) (show 5 < 100000 by decide) rfl (.try_ lb))
  | retry l0 =>
    refine .of (s_skip t1 (s_skip t2 rfl)) (Run.iff t3 (fun _ => Rt.stop (two .retry2)) fun _ => one (vs := [.str "retry", .int l0]) (new := .retry X.l) rfl (show 2 ≤ 2 by decide) (show 4 < 100000 by decide) rfl (.retry lb))
  | trust l0 =>
    refine .of (s_skip t1 (s_skip t2 rfl)) (Run.iff t3 (fun _ => Rt.stop (two .trust2)) fun _ => one (vs := [.str "trust", .int l0]) (new := .trust X.l) rfl (show 2 ≤ 2 by decide) (show 4 < 100000 by decide) rfl (.trust lb))
/-- a spoiled block -/
structure SpB (B : List Row) (n q : Nat) (H : Hp) (q' : Nat) (H2 : Hp) : Prop where
  new : ∃ pre old post new, B = pre ++ old :: post ∧ Spoil n old new ∧ H2[q']? = some (.list ((pre ++ (new ++ post)).map Row.enc))
  ch : Ch q H H2
  ne : q' ≠ q
theorem plain_at {B hd tl : List Row} {j : Nat} (e : B = hd ++ tl) (hj : j < B.length) (h : plainAt B hd.length j = true) : B[j] ∈ hd ∧ ∀ l, B[j] ≠ .lab l := by
  unfold plainAt at h
  rw [List.getElem?_eq_getElem hj, Bool.and_eq_true] at h
  have h2 := Int.ofNat_lt.mp (of_decide_eq_true h.2)
  refine ⟨?_, fun l e => ?_⟩
  · subst e
    rw [List.getElem_append_left h2]; exact List.getElem_mem h2
  · have := h.1
    rw [e] at this
    cases this
theorem plain_of {B hd tl : List Row} {r : Row} (e : B = hd ++ tl) (hr : r ∈ hd) (h : labOf r = none) : 0 < ((List.range B.length).filter (plainAt B hd.length)).length := by
  obtain ⟨i, hi, rfl⟩ := List.mem_iff_getElem.mp hr
  refine List.length_pos_of_mem (a := i) (List.mem_filter.mpr ⟨List.mem_range.mpr ?_, ?_⟩)
  · rw [e, List.length_append]; exact Nat.lt_add_right _ hi
  · unfold plainAt
    rw [e, List.getElem?_append_left hi, List.getElem?_eq_getElem hi, Bool.and_eq_true]
    refine ⟨?_, decide_eq_true (Int.ofNat_lt.mpr hi)⟩
    rcases isLab hd[i] with ⟨l, e⟩ | ⟨_, hw⟩
    · rw [e] at h; cases h
    · show (!decide _) = true
      rw [decide_eq_false hw]; rfl
theorem spoiled_ok {H : Hp} {q bq : Nat} {B : List Row} {keys : List Key} {w : Int} {vis : Key → List Int} (Sn : Snd keys w B vis) (x : Ints H q) (hb : H[bq]? = some (.list (B.map Row.enc))) (hne : bq ≠ q) :
    RunR (P.law_spoiled [.ref q, .ref bq, .int keys.length] H) (SpB B keys.length q H) := by
  obtain ⟨hd, tl, eB, h0, ⟨r0, hr0, lr0⟩, _⟩ := Sn.top
  have hz : B.length < 50000 := Nat.lt_trans Sn.len (by decide)
  refine RunR_fn rfl (.of (s_asg (places_eq hb rfl hz eB fun r hr => (h0 r hr).1) rfl) ?_)
  have pos := plain_of eB hr0 lr0
  have pin := fun {j} => (List.mem_filter (p := plainAt B hd.length) (x := j) (as := List.range B.length)).mp
  generalize (List.range B.length).filter (plainAt B hd.length) = pl at *
  have x1 : Ext H (H ++ [.list (nats pl)]) := .push
  have c1 : Ch q H (H ++ [.list (nats pl)]) := (Ch.refl x).post x1
  have lq : H.length ≠ q := Nat.ne_of_gt x.lt
  refine (place_ok (m := upd (args ["row", "block", "many"] [.ref q, .ref bq, .int keys.length]) "places" (.ref H.length)) c1.row get_new lq pos rfl upd_self).use fun j H2 e hj y => .of (s_asg e rfl) ?_
  have hj := pin hj
  have hjB := List.mem_range.mp hj.1
  obtain ⟨hin, hlab⟩ := plain_at eB hjB hj.2
  have c2 := c1.trans y
  have nq : bq ∉ [q] := fun h => hne (List.mem_singleton.mp h)
  clear e y c1 x1 pos pin
  refine .of (s_asg (e_itemvv (X := .ref bq) rfl upd_self (block_get (c2.ext.get nq hb) (List.getElem?_eq_getElem hjB))) rfl) ?_
  refine (label_ok (m := upd (upd (upd (args ["row", "block", "many"] [.ref q, .ref bq, .int keys.length]) "places" (.ref H.length)) "place" (.int j)) "ins" B[j].enc) c2.row rfl rfl).use fun l H3 e hl y => .of (s_asg e rfl) ?_
  have c3 := c2.trans y
  clear e y
  refine (mod_ok (n := 5) (m := upd (upd (upd (upd (args ["row", "block", "many"] [.ref q, .ref bq, .int keys.length]) "places" (.ref H.length)) "place" (.int j)) "ins" B[j].enc) "label" (.int l)) (e := E.const (.int 5)) (by decide) c3.row rfl fun _ _ => rfl).use fun d H4 e hd4 y => .of (s_asg e rfl) ?_
  have c4 := c3.trans y
  have ps : PS ⟨B, keys.length, q, bq, j, B[j], l, d, H⟩ (upd (upd (upd (upd (upd (args ["row", "block", "many"] [.ref q, .ref bq, .int keys.length]) "places" (.ref H.length)) "place" (.int j)) "ins" B[j].enc) "label" (.int l)) "draw" (.int d)) H4 :=
    ⟨(fun p hp => by (rcases hp with _ | ⟨_, _ | ⟨_, _ | ⟨_, _ | ⟨_, _ | ⟨_, _ | ⟨_, h⟩⟩⟩⟩⟩⟩ <;> first | rfl | cases h)), c4.ext.get nq hb, c4⟩
  refine (ps.spoil ⟨hne, List.getElem?_eq_getElem hjB, hl, hd4, hz⟩ (h0 _ hin).2 hlab).mono fun z h => ?_
  obtain ⟨q', e, s⟩ := h
  obtain ⟨new, hs, g⟩ := s.new
  exact ⟨q', e, ⟨_, B[j], _, new, by rw [← drop_at (List.getElem?_eq_getElem hjB), List.take_append_drop], hs, g⟩, s.ch, s.ne⟩
section
variable {H H' : Hp} {q c s f j r i : Nat} {w : Int} {keys : List Key} {k : Key}
/-- a list of the row's kind, or of the codes' kind: what the clauses are made of is neither -/
noncomputable def Odd (H : Hp) (q : Nat) : Prop := (∃ xs : List Int, H[q]? = some (.list (xs.map .int))) ∨ ∃ xs : List Nat, H[q]? = some (.list (xs.map .ref))
theorem Odd.row (x : Ints H q) : Odd H q := let ⟨xs, a, _⟩ := x; .inl ⟨xs, a⟩
theorem Odd.inst {C : Addr} {fs : List (String × V)} (o : Odd H q) (h : H[r]? = some (.inst C fs)) : r ∉ [q] := fun e => by
  rw [List.mem_singleton.mp e] at h
  rcases o with ⟨xs, o⟩ | ⟨xs, o⟩ <;> cases h.symm.trans o
theorem map_no_tup {α : Type} {g : α → V} {xs : List α} {ws : List V} (hg : ∀ a, g a ≠ .tup ws) (h : (xs.map g)[i]? = some (.tup ws)) : False := by
  rw [List.getElem?_map] at h
  obtain ⟨a, _, e⟩ := Option.map_eq_some_iff.mp h
  exact hg a e
theorem Odd.tup {vs ws : List V} (o : Odd H q) (h : H[r]? = some (.list vs)) (h2 : vs[i]? = some (.tup ws)) : r ∉ [q] := fun e => by
  rw [List.mem_singleton.mp e] at h
  rcases o with ⟨xs, o⟩ | ⟨xs, o⟩ <;> rw [O.list.inj (Option.some.inj (h.symm.trans o))] at h2
  · exact map_no_tup (g := V.int) (fun _ h => nomatch h) h2
  · exact map_no_tup (g := V.ref) (fun _ h => nomatch h) h2
theorem CodeAt.extO (x : CodeAt H j r k) (o : Odd H q) (e : ExtB [q] H H') : CodeAt H' j r k := by
  obtain ⟨fs, i, h1, h2, h3, h4⟩ := x.inst
  exact ⟨fs, i, e.get (o.inst h1) h1, h2, h3, e.get (o.tup (i := 0) h4 rfl) h4⟩
theorem Codes.extO (x : Codes H c keys) (hc : c ≠ q) (o : Odd H q) (e : ExtB [q] H H') : Codes H' c keys := by
  obtain ⟨refs, h1, h2, h3⟩ := x
  exact ⟨refs, e.get (fun h => hc (List.mem_singleton.mp h)) h1, h2, fun j k hk => let ⟨r, a, b⟩ := h3 j k hk; ⟨r, a, b.extO o e⟩⟩
theorem SymAt.extO (x : SymAt H s f w) (o : Odd H q) (e : ExtB [q] H H') : SymAt H' s f w := by
  obtain ⟨fs, F, fl, y, h1, h2, h0, h3, h4⟩ := x
  exact ⟨fs, F, fl, y, e.get (o.inst h1) h1, h2, h0, e.get (o.tup h3 h4) h3, h4⟩
theorem Codes.snoc (hc : Codes H c keys) (ca : CodeAt H keys.length r k) : ∃ refs : List Nat, H[c]? = some (.list (refs.map .ref)) ∧ refs.length = keys.length ∧ Codes (H.set c (.list (refs.map V.ref ++ [.ref r]))) c (keys ++ [k]) := by
  obtain ⟨refs, h1, h2, h3⟩ := hc
  have oc : Odd H c := .inr ⟨refs, h1⟩
  have es : ExtB [c] H (H.set c (.list (refs.map .ref ++ [.ref r]))) := .set (.head _)
  refine ⟨refs, h1, h2, refs ++ [r], (get_set h1).trans (by rw [List.map_append]; rfl), by rw [List.length_append, List.length_append, h2]; rfl, fun j k' hj => ?_⟩
  rcases snoc_get hj with ⟨e, e2⟩ | hj
  · exact ⟨r, by rw [e, ← h2, List.getElem?_concat_length], by rw [e, e2]; exact ca.extO oc es⟩
  · exact let ⟨r', a, b⟩ := h3 j k' hj; ⟨r', snoc_of a, b.extO oc es⟩
/-- the clauses, half done -/
structure CdI (q c s f : Nat) (w : Int) (m0 : Loc) (d : List Nat) (m : Loc) (H : Hp) : Prop where
  loc : ∀ z, z ∉ ["place"] → m z = m0 z
  row : Ints H q
  sym : SymAt H s f w
  cod : ∃ keys : List Key, keys.length = d.length ∧ (∀ k ∈ keys, KeyOk k) ∧ Codes H c keys
structure CM (q c f : Nat) (w : Int) (m : Loc) : Prop where
  mr : m "row" = some (.ref q)
  mn : m "name" = some (.int f)
  mc : m "codes" = some (.ref c)
  mw : m "wide" = some (.int w)
/-- one more clause -/
theorem code_body {m0 m : Loc} {d : List Nat} (M : CM q c f w m0) (hq : c ≠ q) (x : CdI q c s f w m0 d m H) (few : d.length < 50) :
    Run ((S.seq (S.expr (E.lmeth E.opAppend (E.var "codes") [E.new C_ClauseCode P.ClauseCode_init [E.var "name", E.call P.law_key [E.var "row"], E.list [E.tup [E.const (.str "get_constant"), E.tup [E.const (.int 5), E.var "place"], E.tup [E.const (.str "x"), E.const (.int 1)]], E.tup [E.const (.str "proceed")]], E.var "wide"]])) (S.nil)) (upd m "place" (.int d.length)) H) fun z =>
      z.1 = Fl.next ∧ CdI q c s f w m0 (d ++ [j]) z.2.1 z.2.2 := by
  have hl := loc_upd (v := .int d.length) (.head _) x.loc
  have mp : upd m "place" (.int d.length) "place" = some (.int d.length) := upd_self
  obtain ⟨keys, e1, ks, hc⟩ := x.cod
  have sy := x.sym
  have iv := x.row
  clear x
  generalize upd m "place" (.int d.length) = m1 at *
  obtain ⟨refs0, h01, _⟩ := id hc
  refine (key_ok iv).use fun k H1 ek hk y => ?_
  have hc1 := hc.extO hq (.row iv) y.ext
  have sy1 := sy.extO (.row iv) y.ext
  have ev : E.evs [E.var "name", E.call P.law_key [E.var "row"], E.list [E.tup [E.const (.str "get_constant"), E.tup [E.const (.int 5), E.var "place"], E.tup [E.const (.str "x"), E.const (.int 1)]], E.tup [E.const (.str "proceed")]], E.var "wide"] m1 H = some ([.int f, k.enc, .ref H1.length, .int w], H1 ++ [.list [(Row.getc d.length).enc, Row.proceed.enc]]) :=
    evsC (e_var ((hl _ (by decide)).trans M.mn)) (evs3 (e_call1 (e_var ((hl _ (by decide)).trans M.mr)) ek) (e_list (evs2 (e_tup (evs3 rfl (e_tup (evs2 rfl (e_var mp))) (e_tup (evs2 rfl rfl)))) (e_tup (evs1 rfl)))) (e_var ((hl _ (by decide)).trans M.mw)))
  have x2 : Ext H1 (H1 ++ [.list [(Row.getc d.length).enc, Row.proceed.enc]]) := .push
  have g2 : (H1 ++ [O.list [(Row.getc d.length).enc, Row.proceed.enc]])[H1.length]? = some (.list [(Row.getc d.length).enc, Row.proceed.enc]) := get_new
  have en := e_new ev code_init_ok
  have cl := (hl _ (by decide)).trans M.mc
  clear ev ek hc sy
  generalize H1 ++ [O.list [(Row.getc d.length).enc, Row.proceed.enc]] = A2 at *
  have x3 : Ext A2 (A2 ++ [.inst C_ClauseCode [("functor", .int f), ("key", k.enc), ("instrs", .ref H1.length), ("used", .int w)]]) := .push
  have ca : CodeAt (A2 ++ [.inst C_ClauseCode [("functor", .int f), ("key", k.enc), ("instrs", .ref H1.length), ("used", .int w)]]) d.length A2.length k := ⟨_, H1.length, get_new, rfl, rfl, x3.get g2⟩
  have x := x2.trans x3
  clear x2 x3 g2
  generalize A2 ++ [O.inst C_ClauseCode [("functor", .int f), ("key", k.enc), ("instrs", .ref H1.length), ("used", .int w)]] = A3 at *
  obtain ⟨refs, r1, r2, r3⟩ := (hc1.ext x).snoc (e1.symm ▸ ca)
  have oc : Odd A3 c := .inr ⟨refs, r1⟩
  have es : ExtB [c] A3 (A3.set c (.list (refs.map .ref ++ [.ref A2.length]))) := .set (.head _)
  refine ⟨_, s_expr (e_app (e_var cl) h01 en r1 (lt_big (by rw [List.length_map, r2, e1]; exact Nat.lt_trans few (by decide)))) rfl, rfl, hl, (y.row.ext x fun h => nomatch h).ext es fun h => hq (List.mem_singleton.mp h).symm, (sy1.ext x).extO oc es, keys ++ [k], by rw [List.length_append, List.length_append, e1]; rfl, fun k' hk' => ?_, r3⟩
  exact (List.mem_append.mp hk').elim (ks k') fun h => List.mem_singleton.mp h ▸ hk
theorem codes_loop {m0 : Loc} {n : Nat} {R : Sx} {Q : Fl × Loc × Hp → Prop} (M : CM q c f w m0) (hq : c ≠ q) (x : Ints H q) (sy : SymAt H s f w) (hc : Codes H c []) (hn : n < 50) (mm : m0 "many" = some (.int n)) (h : ∀ m H, CdI q c s f w m0 (List.range n) m H → Run (R m H) Q) :
    Run (S.seq (S.forR1 (S.b1 "place") (E.var "many") (S.seq (S.expr (E.lmeth E.opAppend (E.var "codes") [E.new C_ClauseCode P.ClauseCode_init [E.var "name", E.call P.law_key [E.var "row"], E.list [E.tup [E.const (.str "get_constant"), E.tup [E.const (.int 5), E.var "place"], E.tup [E.const (.str "x"), E.const (.int 1)]], E.tup [E.const (.str "proceed")]], E.var "wide"]])) (S.nil))) R m0 H) Q :=
  Run.forN (n := n) (CdI q c s f w m0) (Nat.lt_trans hn (by decide)) (e_var mm) ⟨fun _ _ => rfl, x, sy, [], rfl, (fun _ h => nomatch h), hc⟩ (fun d j t m H e y => by
    have hd : j = d.length := by rw [(range_split e).1, List.length_range]
    subst hd
    exact code_body M hq y (Nat.lt_trans (range_mem e).2 hn)) h
/-- [code.key for code in codes] -/
theorem keys_eq {m : Loc} (hc : Codes H c keys) (few : keys.length < 100) (mc : m "codes" = some (.ref c)) : E.comp [] (S.b1 "code") (E.var "codes") T.yes (E.attr C_ClauseCode "key" (E.var "code")) m H = some (.ref H.length, H ++ [.list (keys.map Key.enc)]) := by
  obtain ⟨refs, h1, h2, h3⟩ := hc
  have hz1 : (refs.zip keys).map (fun p : Nat × Key => V.ref p.1) = refs.map .ref := (List.map_map (f := Prod.fst) (g := V.ref)).symm.trans (by rw [List.map_fst_zip (Nat.le_of_eq h2)])
  have hz2 : (refs.zip keys).map (fun p : Nat × Key => p.2.enc) = keys.map Key.enc := (List.map_map (f := Prod.snd) (g := Key.enc)).symm.trans (by rw [List.map_snd_zip (Nat.le_of_eq h2.symm)])
  refine comp_eq (H1 := H) (q := c) (vs := refs.map .ref) (e_var mc) h1 (by rw [List.length_map, h2]; exact Nat.lt_trans few (by decide)) ?_
  have := turnsC_ok (still := S.stillIs (.ref c) (refs.map .ref)) (bind := S.b1 "code") (test := T.yes) (elt := E.attr C_ClauseCode "key" (E.var "code")) (H := H) (enc := fun p : Nat × Key => V.ref p.1) (p := fun _ => true) (f := fun p => p.2.enc) (Q := fun _ => True) (stillIs_ref h1) (refs.zip keys) (fun a ha m' _ => ?_) (E.only [] m) trivial
  · rw [hz1, List.filter_eq_self.mpr fun _ _ => rfl, hz2] at this
    exact this
  · obtain ⟨i, hi, rfl⟩ := List.mem_iff_getElem.mp ha
    rw [List.getElem_zip]
    rw [List.length_zip] at hi
    have hr := (Nat.lt_min.mp hi).1
    obtain ⟨r, a1, ca⟩ := h3 i keys[i] (List.getElem?_eq_getElem (h2 ▸ hr))
    rw [List.getElem?_eq_getElem hr] at a1
    obtain ⟨fs, qi, g1, g2, _, _⟩ := ca.inst
    exact ⟨_, rfl, trivial, rfl, fun _ => e_attr (e_var upd_self) (Option.some.inj a1 ▸ g1) g2⟩
end
section
variable {m : Loc} {H H1 H2 : Hp} {a b : Ex} {i j : Nat} {u v : List Int} {t t' : Tx} {x y : Int} {p r : Bool}
theorem t_nel (h : a m H = some (.ref i, H1)) (h2 : b m H1 = some (.ref j, H2)) (g1 : H2[i]? = some (.list (u.map .int))) (g2 : H2[j]? = some (.list (v.map .int))) : T.cmp .NotEq a b m H = some (!decide (u = v), H2) := t_cmp h h2 (by unfold cmpV; rw [eqV_ints g1 g2]; rfl)
theorem t_neb (h : a m H = some (.bool p, H1)) (h2 : b m H1 = some (.bool r, H2)) : T.cmp .NotEq a b m H = some (!(p == r), H2) := t_cmp h h2 rfl
theorem bool_ne (a : Bool) : (!(a == a)) = false := by cases a <;> rfl
theorem t_orF (h : t m H = some (false, H1)) (h2 : t' m H1 = some (p, H2)) : T.or [t, t'] m H = some (p, H2) := by
  simp only [T.or, h, h2, Option.bind_some]; cases p <;> rfl
theorem e_gt (h : a m H = some (.int x, H1)) (h2 : b m H1 = some (.int y, H2)) : E.cmp .Gt a b m H = some (.bool (decide (y < x)), H2) := by unfold E.cmp; rw [h, Option.bind_some, h2]; rfl
theorem e_call5 {f : Fn} {c d e : Ex} {X1 X2 X3 X4 X5 : V} {w : Option (V × Hp)} (h1 : a m H = some (X1, H)) (h2 : b m H = some (X2, H)) (h3 : c m H = some (X3, H)) (h4 : d m H = some (X4, H)) (h5 : e m H = some (X5, H)) (hf : f [X1, X2, X3, X4, X5] H = w) : E.call f [a, b, c, d, e] m H = w := by
  unfold E.call
  rw [evsC h1 (evsC h2 (evs3 h3 h4 h5))]
  exact hf
end
/-- what the law has at hand -/
structure LX where
  (q c kq cq bl b0 b1 b2 : Nat)
  keys : List Key
  w : Int
structure LX.Ok (X : LX) : Prop where
  few : X.keys.length < 100
  ne : ∀ i ∈ [X.c, X.kq, X.cq, X.bl, X.b0, X.b1, X.b2], i ∉ [X.q]
structure LS (X : LX) (m : Loc) (H : Hp) : Prop where
  loc : ∀ p ∈ [("row", V.ref X.q), ("wide", .int X.w), ("many", .int X.keys.length), ("codes", .ref X.c), ("keys", .ref X.kq), ("calls", .ref X.cq), ("blocks", .ref X.bl)], m p.1 = some p.2
  iv : Ints H X.q
  cod : Codes H X.c X.keys
  hk : H[X.kq]? = some (.list (X.keys.map Key.enc))
  hq : H[X.cq]? = some (.list ((callsOf X.keys).map Key.enc))
  hbl : H[X.bl]? = some (.list [.ref X.b0, .ref X.b1, .ref X.b2])
  h0 : H[X.b0]? = some (.list ((indexBlock X.w X.keys).map Row.enc))
  h1 : H[X.b1]? = some (.list ((chainBlock X.w X.keys).map Row.enc))
  h2 : H[X.b2]? = some (.list ((groupBlock X.w X.keys).map Row.enc))
section
variable {X : LX} {m : Loc} {H H1 : Hp} {R : Sx} {Q : Fl × Loc × Hp → Prop}
theorem LS.row (x : LS X m H) : m "row" = some (.ref X.q) := x.loc ("row", .ref X.q) (.head _)
theorem LS.wide (x : LS X m H) : m "wide" = some (.int X.w) := x.loc ("wide", .int X.w) (.tail _ (.head _))
theorem LS.many (x : LS X m H) : m "many" = some (.int X.keys.length) := x.loc ("many", .int X.keys.length) (.tail _ (.tail _ (.head _)))
theorem LS.codes (x : LS X m H) : m "codes" = some (.ref X.c) := x.loc ("codes", .ref X.c) (.tail _ (.tail _ (.tail _ (.head _))))
theorem LS.keys (x : LS X m H) : m "keys" = some (.ref X.kq) := x.loc ("keys", .ref X.kq) (.tail _ (.tail _ (.tail _ (.tail _ (.head _)))))
theorem LS.calls (x : LS X m H) : m "calls" = some (.ref X.cq) := x.loc ("calls", .ref X.cq) (.tail _ (.tail _ (.tail _ (.tail _ (.tail _ (.head _))))))
theorem LS.blocks (x : LS X m H) : m "blocks" = some (.ref X.bl) := x.loc ("blocks", .ref X.bl) (.tail _ (.tail _ (.tail _ (.tail _ (.tail _ (.tail _ (.head _)))))))
theorem LS.ext (x : LS X m H) (e : Ext H H1) : LS X m H1 := ⟨x.loc, x.iv.ext e (fun h => nomatch h), x.cod.ext e, e.get x.hk, e.get x.hq, e.get x.hbl, e.get x.h0, e.get x.h1, e.get x.h2⟩
theorem LS.draws (x : LS X m H) (ok : X.Ok) (y : Ch X.q H H1) : LS X m H1 :=
  ⟨x.loc, y.row, x.cod.extO (fun h => ok.ne _ (.head _) (List.mem_singleton.mpr h)) (.row x.iv) y.ext, y.ext.get (ok.ne _ (.tail _ (.head _))) x.hk, y.ext.get (ok.ne _ (.tail _ (.tail _ (.head _)))) x.hq, y.ext.get (ok.ne _ (.tail _ (.tail _ (.tail _ (.head _))))) x.hbl, y.ext.get (ok.ne _ (.tail _ (.tail _ (.tail _ (.tail _ (.head _)))))) x.h0, y.ext.get (ok.ne _ (.tail _ (.tail _ (.tail _ (.tail _ (.tail _ (.head _))))))) x.h1, y.ext.get (ok.ne _ (.tail _ (.tail _ (.tail _ (.tail _ (.tail _ (.tail _ (.head _)))))))) x.h2⟩
theorem LS.upd (x : LS X m H) {y : String} {v : V} (h : y ∉ ["row", "wide", "many", "codes", "keys", "calls", "blocks"]) : LS X (upd m y v) H :=
  have k : ∀ p ∈ [("row", V.ref X.q), ("wide", .int X.w), ("many", .int X.keys.length), ("codes", .ref X.c), ("keys", .ref X.kq), ("calls", .ref X.cq), ("blocks", .ref X.bl)], p.1 ∈ ["row", "wide", "many", "codes", "keys", "calls", "blocks"] := fun _ hp => List.mem_map_of_mem (f := Prod.fst) hp
  ⟨fun p hp => (upd_ne (fun (e : p.1 = y) => h (e ▸ k p hp))).trans (x.loc p hp), x.iv, x.cod, x.hk, x.hq, x.hbl, x.h0, x.h1, x.h2⟩
theorem calls_len {keys : List Key} (few : keys.length < 100) : (callsOf keys).length ≤ 104 := Nat.le_trans (Nat.le_of_eq (List.length_append (as := [Key.var, .list, .co 5 (10 ^ 40), .st 9999]))) (Nat.add_le_add_left (Nat.le_of_lt few) 4)
/-- candidates and leaves_choice for a call -/
theorem due_body {key : Key} (x : LS X m H) (ok : X.Ok) (hm : m "call" = some key.enc) :
    Run ((S.seq (S.asg "due" (E.compR ["call", "keys"] (S.b1 "place") (E.var "many") (T.of (E.call P.law_matches [E.item (E.var "keys") (E.var "place"), E.var "call"])) (E.var "place"))) (S.seq (S.iff (T.or [T.cmp .NotEq (E.call P.candidates [E.var "codes", E.var "call"]) (E.var "due"), T.cmp .NotEq (E.call P.leaves_choice [E.var "codes", E.var "call"]) (E.cmp .Gt (E.len (E.var "due")) (E.const (.int 1)))]) (S.seq (S.ret (E.const (.bool false))) (S.nil)) (S.nil)) (S.nil))) m H) fun z =>
      z.1 = Fl.next ∧ LS X z.2.1 z.2.2 ∧ Ext H z.2.2 := by
  refine .of (s_asg (due_eq x.hk ok.few x.keys hm (e_var x.many)) rfl) ?_
  have x0 : Ext H (H ++ [.list (nats (cand X.keys key))]) := .push
  have gd : (H ++ [O.list (nats (cand X.keys key))])[H.length]? = some (.list (nats (cand X.keys key))) := get_new
  have l := (x.ext x0).upd (y := "due") (v := .ref H.length) (by decide)
  have hm1 : upd m "due" (.ref H.length) "call" = some key.enc := (upd_ne (by decide)).trans hm
  have hd : upd m "due" (.ref H.length) "due" = some (.ref H.length) := upd_self
  generalize upd m "due" (.ref H.length) = m1 at *
  generalize H ++ [O.list (nats (cand X.keys key))] = A at *
  refine (candidates_ok (key := key) l.cod ok.few).use fun q1 H2 e1 y => (leaves_ok (key := key) (l.cod.ext y.ext) ok.few).use fun H3 e2 y2 => ?_
  have g1 := y.ext.get gd
  have g2 := y2.get g1
  have g3 := y.list
  rw [nats_zs] at g1 g3
  have t1 := t_nel (e_call2 (e_var l.codes) (e_var hm1) e1) (e_var hd) g3 g1
  rw [decide_eq_true rfl] at t1
  have t2 := t_neb (e_call2 (e_var l.codes) (e_var hm1) e2) (e_gt (b := E.const (.int 1)) (y := 1) ((e_len (e_var hd) g2).trans (by rw [nats_len])) rfl)
  rw [show decide ((1 : Int) < ((cand X.keys key).length : Int)) = decide (1 < (cand X.keys key).length) from decide_eq_decide.mpr (Int.ofNat_lt (n := 1)), bool_ne] at t2
  exact ⟨_, s_skip (t_orF t1 t2) rfl, rfl, (l.ext y.ext).ext y2, x0.trans (y.ext.trans y2)⟩
theorem due_loop (x : LS X m H) (ok : X.Ok) (k : ∀ m H, LS X m H → Run (R m H) Q) :
    Run (S.seq (S.forIn (S.b1 "call") (E.bin .Add (E.var "calls") (E.list [E.call P.law_key [E.var "row"]])) (S.seq (S.asg "due" (E.compR ["call", "keys"] (S.b1 "place") (E.var "many") (T.of (E.call P.law_matches [E.item (E.var "keys") (E.var "place"), E.var "call"])) (E.var "place"))) (S.seq (S.iff (T.or [T.cmp .NotEq (E.call P.candidates [E.var "codes", E.var "call"]) (E.var "due"), T.cmp .NotEq (E.call P.leaves_choice [E.var "codes", E.var "call"]) (E.cmp .Gt (E.len (E.var "due")) (E.const (.int 1)))]) (S.seq (S.ret (E.const (.bool false))) (S.nil)) (S.nil)) (S.nil)))) R m H) Q := by
  refine (key_ok x.iv).use fun key H1 e1 _ y => ?_
  have x1 := x.draws ok y
  have x2 : Ext H1 (H1 ++ [.list [key.enc]]) := .push
  have l2 := e_list (evs1 (e_call1 (e_var x.row) e1))
  have e3 : E.bin .Add (E.var "calls") (E.list [E.call P.law_key [E.var "row"]]) m H = some (.ref (H1 ++ [O.list [key.enc]]).length, (H1 ++ [O.list [key.enc]]) ++ [.list ((callsOf X.keys ++ [key]).map Key.enc)]) := by
    unfold E.bin
    rw [e_var x.calls, Option.bind_some, l2, List.map_append]
    exact binV_lists (x2.get x1.hq) get_new (by rw [List.length_map]; exact Nat.le_trans (Nat.add_le_add_right (calls_len ok.few) 1) (by decide))
  have x3 := x1.ext (x2.trans (.push (o := .list ((callsOf X.keys ++ [key]).map Key.enc))))
  refine Run.forL (l := callsOf X.keys ++ [key]) (enc := Key.enc) (fun _ m H' => LS X m H' ∧ Ext _ H') e3 get_new (fun d m H' h => h.2.get get_new) ⟨x3, .refl⟩ (fun d a t m H' _ h => ?_) fun m H' h => k m H' h.1
  exact (due_body (h.1.upd (by decide)) ok upd_self).mono fun z hz => ⟨hz.1, hz.2.1, h.2.trans hz.2.2⟩
/-- a block at hand -/
structure LB (X : LX) (B : List Row) (bq : Nat) (m : Loc) (H : Hp) : Prop where
  ls : LS X m H
  mb : m "block" = some (.ref bq)
  hb : H[bq]? = some (.list (B.map Row.enc))
variable {B : List Row} {bq cc : Nat} {vis : Key → List Int}
theorem LB.ext (x : LB X B bq m H) (e : Ext H H1) : LB X B bq m H1 := ⟨x.ls.ext e, x.mb, e.get x.hb⟩
theorem LB.upd (x : LB X B bq m H) {y : String} {v : V} (h : y ∉ ["row", "wide", "many", "codes", "keys", "calls", "blocks"]) (h2 : "block" ≠ y) : LB X B bq (Mine.upd m y v) H := ⟨x.ls.upd h, (upd_ne h2).trans x.mb, x.hb⟩
/-- tried_clauses comes to what the walk comes to -/
theorem tried_body {key : Key} (x : LB X B bq m H) (hB : Blk B X.keys.length X.w cc vis) (hm : m "call" = some key.enc) :
    Run ((S.seq (S.iff (T.cmp .NotEq (E.call P.tried_clauses [E.var "block", E.var "many", E.var "call"]) (E.comp [] (S.b2 "place" "left") (E.call P.law_visits [E.var "block", E.var "many", E.var "wide", E.var "call"]) (T.yes) (E.var "place"))) (S.seq (S.ret (E.const (.bool false))) (S.nil)) (S.nil)) (S.nil)) m H) fun z =>
      z.1 = Fl.next ∧ LB X B bq z.2.1 z.2.2 := by
  obtain ⟨n, hn, hw⟩ := hB.vis key
  refine (tried_ok hw hB.one (Nat.le_trans hn (by decide)) hB.uniq hB.len hB.two x.hb).use fun q1 H1 e1 y => ?_
  have x1 := x.ext y.ext
  refine (met_ok (m := m) (nE := E.var "many") hB x1.hb x1.mb x1.ls.wide hm (e_var x1.ls.many)).use fun q2 H2 e2 y2 => ?_
  have t := t_nel (e_call3 (e_var x.mb) (e_var x.ls.many) (e_var hm) e1) e2 (y2.ext.get y.list) y2.list
  rw [decide_eq_true rfl] at t
  exact ⟨_, s_skip t rfl, rfl, x1.ext y2.ext⟩
theorem tried_loop (x : LB X B bq m H) (hB : Blk B X.keys.length X.w cc vis) (k : ∀ m H, LB X B bq m H → Run (R m H) Q) :
    Run (S.seq (S.forIn (S.b1 "call") (E.var "calls") (S.seq (S.iff (T.cmp .NotEq (E.call P.tried_clauses [E.var "block", E.var "many", E.var "call"]) (E.comp [] (S.b2 "place" "left") (E.call P.law_visits [E.var "block", E.var "many", E.var "wide", E.var "call"]) (T.yes) (E.var "place"))) (S.seq (S.ret (E.const (.bool false))) (S.nil)) (S.nil)) (S.nil))) R m H) Q :=
  Run.forL (l := callsOf X.keys) (enc := Key.enc) (fun _ m H' => LB X B bq m H') (e_var x.ls.calls) x.ls.hq (fun d m H' h => h.ls.hq) x (fun d a t m H' _ h => tried_body (h.upd (by decide) (by decide)) hB upd_self) fun m H' h => k m H' h
/-- check_index says what the walk says -/
theorem exact_body {e : Bool} (x : LB X B bq m H) (ok : X.Ok) (kok : ∀ k ∈ X.keys, KeyOk k) (al : Alike X.keys vis) (hB : Blk B X.keys.length X.w cc vis) (hm : m "exact" = some (.bool e)) :
    Run ((S.seq (S.iff (T.cmp .NotEq (E.call P.check_index [E.var "codes", E.var "block", E.var "exact"]) (E.call P.law_checked [E.var "block", E.var "keys", E.var "calls", E.var "wide", E.var "exact"])) (S.seq (S.ret (E.const (.bool false))) (S.nil)) (S.nil)) (S.nil)) m H) fun z => z.1 = Fl.next ∧ LB X B bq z.2.1 z.2.2 ∧ Ext H z.2.2 := by
  obtain ⟨sm, g, f, hs, h⟩ := check_index_ok (exact := e) x.ls.cod ok.few hB x.hb
  refine h.use fun H1 e1 y => ?_
  rw [check_eq al hs kok] at e1
  have x1 := x.ext y
  refine (law_checked_ok (exact := e) ok.few x1.ls.hk x1.ls.hq hB x1.hb).use fun H2 e2 y2 => ?_
  have t := t_neb (e_call3 (e_var x.ls.codes) (e_var x.mb) (e_var hm) e1) (e_call5 (e_var x1.mb) (e_var x1.ls.keys) (e_var x1.ls.calls) (e_var x1.ls.wide) (e_var hm) e2)
  rw [bool_ne] at t
  exact ⟨_, s_skip t rfl, rfl, x1.ext y2, y.trans y2⟩
theorem exact_loop (x : LB X B bq m H) (ok : X.Ok) (kok : ∀ k ∈ X.keys, KeyOk k) (al : Alike X.keys vis) (hB : Blk B X.keys.length X.w cc vis) (k : ∀ m H, Run (R m H) Q) :
    Run (S.seq (S.forIn (S.b1 "exact") (E.list [E.const (.bool true), E.const (.bool false)]) (S.seq (S.iff (T.cmp .NotEq (E.call P.check_index [E.var "codes", E.var "block", E.var "exact"]) (E.call P.law_checked [E.var "block", E.var "keys", E.var "calls", E.var "wide", E.var "exact"])) (S.seq (S.ret (E.const (.bool false))) (S.nil)) (S.nil)) (S.nil))) R m H) Q :=
  Run.forL (l := [true, false]) (enc := V.bool) (fun _ m H' => LB X B bq m H' ∧ Ext (H ++ [.list [.bool true, .bool false]]) H') (e_list (evs2 rfl rfl)) get_new (fun d m H' h => h.2.get get_new) ⟨x.ext .push, .refl⟩ (fun d a t m H' _ h => (exact_body (h.1.upd (by decide) (by decide)) ok kok al hB upd_self).mono fun z hz => ⟨hz.1, hz.2.1, h.2.trans hz.2.2⟩) fun m H' h => k m H'
end
noncomputable def law_t12 : Sx := S.seq (S.asg "block" (E.mklist (E.item (E.var "blocks") (E.bin .Mod (E.call P.law_next [E.var "row"]) (E.const (.int 3)))))) (S.seq (S.asg "block" (E.call P.law_spoiled [E.var "row", E.var "block", E.var "many"])) (S.seq (S.forIn (S.b1 "call") (E.var "calls") (S.seq (S.iff (T.cmp .NotEq (E.call P.tried_clauses [E.var "block", E.var "many", E.var "call"]) (E.comp [] (S.b2 "place" "left") (E.call P.law_visits [E.var "block", E.var "many", E.var "wide", E.var "call"]) (T.yes) (E.var "place"))) (S.seq (S.ret (E.const (.bool false))) (S.nil)) (S.nil)) (S.nil))) (S.seq (S.forIn (S.b1 "exact") (E.list [E.const (.bool true), E.const (.bool false)]) (S.seq (S.iff (T.cmp .NotEq (E.call P.check_index [E.var "codes", E.var "block", E.var "exact"]) (E.call P.law_checked [E.var "block", E.var "keys", E.var "calls", E.var "wide", E.var "exact"])) (S.seq (S.ret (E.const (.bool false))) (S.nil)) (S.nil)) (S.nil))) (S.seq (S.ret (E.const (.bool true))) (S.nil)))))
noncomputable def law_t10 : Sx := S.seq (S.forIn (S.b1 "call") (E.bin .Add (E.var "calls") (E.list [E.call P.law_key [E.var "row"]])) (S.seq (S.asg "due" (E.compR ["call", "keys"] (S.b1 "place") (E.var "many") (T.of (E.call P.law_matches [E.item (E.var "keys") (E.var "place"), E.var "call"])) (E.var "place"))) (S.seq (S.iff (T.or [T.cmp .NotEq (E.call P.candidates [E.var "codes", E.var "call"]) (E.var "due"), T.cmp .NotEq (E.call P.leaves_choice [E.var "codes", E.var "call"]) (E.cmp .Gt (E.len (E.var "due")) (E.const (.int 1)))]) (S.seq (S.ret (E.const (.bool false))) (S.nil)) (S.nil)) (S.nil)))) (S.seq (S.iff (T.or [T.not (T.of (E.call P.check_index [E.var "codes", E.item (E.var "blocks") (E.const (.int 0)), E.const (.bool true)])), T.not (T.of (E.call P.check_index [E.var "codes", E.item (E.var "blocks") (E.const (.int 1)), E.const (.bool false)])), T.not (T.of (E.call P.check_index [E.var "codes", E.item (E.var "blocks") (E.const (.int 2)), E.const (.bool false)]))]) (S.seq (S.ret (E.const (.bool false))) (S.nil)) (S.nil)) law_t12)
noncomputable def law_t7 : Sx := S.seq (S.asg "keys" (E.comp [] (S.b1 "code") (E.var "codes") (T.yes) (E.attr C_ClauseCode "key" (E.var "code")))) (S.seq (S.asg "calls" (E.bin .Add (E.list [E.tup [E.const (.str "var")], E.tup [E.const (.str "list")], E.tup [E.const (.str "const"), E.tup [E.const (.int 5), E.bin .Pow (E.const (.int 10)) (E.const (.int 40))]], E.tup [E.const (.str "struct"), E.const (.int 9999)]]) (E.var "keys"))) (S.seq (S.asg "blocks" (E.list [E.call P.index_block [E.var "signs", E.var "name", E.var "codes"], E.call P.chain_block [E.var "signs", E.var "name", E.var "codes"], E.call P.group_block [E.var "signs", E.var "name", E.var "codes"]])) law_t10))
noncomputable def law_t4 : Sx := S.seq (S.asg "many" (E.bin .Add (E.const (.int 2)) (E.bin .Mod (E.call P.law_next [E.var "row"]) (E.const (.int 5))))) (S.seq (S.asg "codes" (E.list [])) (S.seq (S.forR1 (S.b1 "place") (E.var "many") (S.seq (S.expr (E.lmeth E.opAppend (E.var "codes") [E.new C_ClauseCode P.ClauseCode_init [E.var "name", E.call P.law_key [E.var "row"], E.list [E.tup [E.const (.str "get_constant"), E.tup [E.const (.int 5), E.var "place"], E.tup [E.const (.str "x"), E.const (.int 1)]], E.tup [E.const (.str "proceed")]], E.var "wide"]])) (S.nil))) law_t7))
section
variable {m : Loc} {H H1 H2 : Hp} {a b : Ex} {i j r s f q c kq : Nat} {vs ws : List V} {t : Tx} {ts : List Tx} {w : Int} {keys : List Key} {B : List Row} {vis : Key → List Int}
theorem t_orC (h : t m H = some (false, H1)) : T.or (t :: ts) m H = T.or ts m H1 := by
  simp only [T.or, h, Option.bind_some]; rfl
theorem e_addl (h : a m H = some (.ref i, H1)) (h2 : b m H1 = some (.ref j, H2)) (g1 : H2[i]? = some (.list vs)) (g2 : H2[j]? = some (.list ws)) (hb : vs.length + ws.length ≤ big) : E.bin .Add a b m H = some (.ref H2.length, H2 ++ [.list (vs ++ ws)]) := by
  unfold E.bin; rw [h, Option.bind_some, h2]; exact binV_lists g1 g2 hb
theorem e_mklistr (h : a m H = some (.ref r, H1)) (hl : H1[r]? = some (.list vs)) : E.mklist a m H = some (.ref H1.length, H1 ++ [.list vs]) := by unfold E.mklist; rw [h]; show ((V.ref r).asL H1).map _ = _; rw [V.asL_ref hl]; rfl
/-- calls -/
theorem calls_ok (hk : H[kq]? = some (.list (keys.map Key.enc))) (few : keys.length < 100) (mk : m "keys" = some (.ref kq)) :
    RunR (E.bin .Add (E.list [E.tup [E.const (.str "var")], E.tup [E.const (.str "list")], E.tup [E.const (.str "const"), E.tup [E.const (.int 5), E.bin .Pow (E.const (.int 10)) (E.const (.int 40))]], E.tup [E.const (.str "struct"), E.const (.int 9999)]]) (E.var "keys") m H) (NewL H ((callsOf keys).map Key.enc)) := by
  have x1 : Ext H (H ++ [.list ([Key.var, .list, .co 5 (10 ^ 40), .st 9999].map Key.enc)]) := .push
  refine ⟨_, _, e_addl (vs := [Key.var, .list, .co 5 (10 ^ 40), .st 9999].map Key.enc) (e_list (evsC rfl (evsC rfl (evs2 (e_tup (evs2 rfl (e_tup (evs2 rfl (e_pow (i := 10) (j := 40) rfl rfl (by decide)))))) rfl)))) (e_var mk) get_new (x1.get hk) ?_, x1.trans .push, get_new.trans (by rw [← List.map_append]; rfl), x1.2⟩
  rw [List.length_map, List.length_map]
  exact Nat.le_trans (Nat.add_le_add_left (Nat.le_of_lt few) 4) (show 4 + 100 ≤ big by decide)
/-- blocks -/
structure Bks (w : Int) (keys : List Key) (H : Hp) (bl : Nat) (H2 : Hp) : Prop where
  ext : Ext H H2
  new : H.length ≤ bl
  list : ∃ b0 b1 b2, H2[bl]? = some (.list [.ref b0, .ref b1, .ref b2]) ∧ H2[b0]? = some (.list ((indexBlock w keys).map Row.enc)) ∧ H2[b1]? = some (.list ((chainBlock w keys).map Row.enc)) ∧ H2[b2]? = some (.list ((groupBlock w keys).map Row.enc))
theorem blocks_ok (hc : Codes H c keys) (sy : SymAt H s f w) (hw : w ≠ 0) (h2 : 2 ≤ keys.length) (h6 : keys.length ≤ 6) (ms : m "signs" = some (.ref s)) (mn : m "name" = some (.int f)) (mc : m "codes" = some (.ref c)) :
    RunR (E.list [E.call P.index_block [E.var "signs", E.var "name", E.var "codes"], E.call P.chain_block [E.var "signs", E.var "name", E.var "codes"], E.call P.group_block [E.var "signs", E.var "name", E.var "codes"]] m H) (Bks w keys H) := by
  have few : keys.length < 100 := Nat.lt_of_le_of_lt h6 (by decide)
  refine (index_block_ok hc sy hw h2 few).use fun b0 H1 e1 y1 => (chain_block_ok (hc.ext y1.ext) (sy.ext y1.ext) h2 few).use fun b1 H2 e2 y2 => (group_block_ok ((hc.ext y1.ext).ext y2.ext) ((sy.ext y1.ext).ext y2.ext) hw h2 (Nat.le_trans h6 (by decide))).use fun b2 H3 e3 y3 => ?_
  have x := y1.ext.trans (y2.ext.trans y3.ext)
  exact ⟨_, _, e_list (evs3 (e_call3 (e_var ms) (e_var mn) (e_var mc) e1) (e_call3 (e_var ms) (e_var mn) (e_var mc) e2) (e_call3 (e_var ms) (e_var mn) (e_var mc) e3)), x.trans .push, x.2, b0, b1, b2, get_new, Ext.get .push (y3.ext.get (y2.ext.get y1.list)), Ext.get .push (y3.ext.get y2.list), Ext.get .push y3.list⟩
/-- check_index of a sound block -/
theorem check_sound {e : Bool} {bq : Nat} (S0 : Snd keys w B vis) (h2 : 2 ≤ keys.length) (few : keys.length < 100) (hc : Codes H c keys) (hb : H[bq]? = some (.list (B.map Row.enc))) (ok : ∀ key, okAt keys vis e key = true) :
    RunV (P.check_index [.ref c, .ref bq, .bool e] H) (.bool true) (Ext H) := by
  obtain ⟨sm, g, f, hs, h⟩ := check_index_ok (exact := e) hc few (S0.blk h2) hb
  rw [List.all_eq_true.mpr fun k _ => ok k] at h
  exact h
theorem check_t {bl b0 : Nat} {bs : List V} {e : Bool} (mc : m "codes" = some (.ref c)) (mb : m "blocks" = some (.ref bl)) (hbl : H[bl]? = some (.list bs)) (hj : bs[j]? = some (.ref b0)) (h : P.check_index [.ref c, .ref b0, .bool e] H = some (.bool true, H1)) :
    T.not (T.of (E.call P.check_index [E.var "codes", E.item (E.var "blocks") (E.const (.int j)), E.const (.bool e)])) m H = some (false, H1) :=
  t_not (e_t (e_call3 (e_var mc) (e_itemv mb (list_get hbl hj)) rfl h))
end
section
variable {X : LX} {m : Loc} {H : Hp}
theorem ok0 {keys : List Key} {vis : Key → List Int} (h : ∀ key, vis key = zs (cand keys key)) (key : Key) : okAt keys vis true key = true := by unfold okAt; rw [if_pos rfl, h]; exact decide_eq_true rfl
theorem ok2 {keys : List Key} {vis : Key → List Int} (h : ∀ key, (vis key).filter (matAt keys key) = zs (cand keys key)) (key : Key) : okAt keys vis false key = true := by unfold okAt; rw [if_neg (by decide), h]; exact decide_eq_true rfl
theorem chain_cand (keys : List Key) (key : Key) : (zs (List.range keys.length)).filter (matAt keys key) = zs (cand keys key) := by rw [filter_zs, mpl_range]
/-- one of the three blocks -/
theorem LS.block (x : LS X m H) (h2 : 2 ≤ X.keys.length) (h6 : X.keys.length ≤ 6) {i : Nat} (hi : i < 3) : ∃ B vis b0, Snd X.keys X.w B vis ∧ [V.ref X.b0, .ref X.b1, .ref X.b2][i]? = some (.ref b0) ∧ H[b0]? = some (.list (B.map Row.enc)) := by
  obtain ⟨v0, S0, _⟩ := index_snd (w := X.w) h2 h6
  obtain ⟨v2, S2, _⟩ := group_snd (w := X.w) h2 h6
  rcases lt4 (Nat.lt_succ_of_lt hi) with rfl | rfl | rfl | rfl
  · exact ⟨_, _, _, S0, rfl, x.h0⟩
  · exact ⟨_, _, _, chain_snd h2 h6, rfl, x.h1⟩
  · exact ⟨_, _, _, S2, rfl, x.h2⟩
  · exact absurd hi (by decide)
theorem law_end (x : LS X m H) (ok : X.Ok) (kok : ∀ k ∈ X.keys, KeyOk k) (h2 : 2 ≤ X.keys.length) (h6 : X.keys.length ≤ 6) : Run (law_t12 m H) fun z => z.1 = .ret (.bool true) ∧ True := by
  refine (mod_ok (m := m) (n := 3) (e := E.const (.int 3)) (by decide) x.iv x.row fun _ _ => rfl).use fun i H1 e1 hi y => ?_
  obtain ⟨i, rfl⟩ := Int.eq_ofNat_of_zero_le hi.1
  have x1 := x.draws ok y
  obtain ⟨B, vis, b0, Sb, hb0, gb⟩ := x1.block h2 h6 (Int.ofNat_lt.mp hi.2)
  refine .of (s_asg (e_mklistr (e_item (e_var x.blocks) e1 (list_get x1.hbl hb0)) gb) rfl) ?_
  have l2 := (x1.ext (.push (o := .list (B.map Row.enc)))).upd (y := "block") (v := .ref H1.length) (by decide)
  have mb : upd m "block" (.ref H1.length) "block" = some (.ref H1.length) := upd_self
  have g2 : (H1 ++ [O.list (B.map Row.enc)])[H1.length]? = some (.list (B.map Row.enc)) := get_new
  have ne := Nat.ne_of_gt x1.iv.lt
  clear x x1 e1 y gb
  generalize upd m "block" (.ref H1.length) = m1 at *
  generalize H1 ++ [O.list (B.map Row.enc)] = A at *
  refine (spoiled_ok Sb l2.iv g2 ne).use fun q' H3 e3 y => .of (s_asg (e_call3 (e_var l2.row) (e_var mb) (e_var l2.many) e3) rfl) ?_
  obtain ⟨pre, old, post, new, eB, hsp, g3⟩ := y.new
  obtain ⟨vis', hB, hal⟩ := spoiled_blk Sb h2 eB hsp
  have lb : LB X (pre ++ (new ++ post)) q' (upd m1 "block" (.ref q')) H3 := ⟨(l2.draws ok y.ch).upd (by decide), upd_self, g3⟩
  exact tried_loop lb hB fun m4 H4 z => exact_loop z ok kok hal hB fun m5 H5 => Run.ret rfl ⟨rfl, trivial⟩
theorem law_mid (x : LS X m H) (ok : X.Ok) (kok : ∀ k ∈ X.keys, KeyOk k) (h2 : 2 ≤ X.keys.length) (h6 : X.keys.length ≤ 6) : Run (law_t10 m H) fun z => z.1 = .ret (.bool true) ∧ True := by
  refine due_loop x ok fun m H x => ?_
  obtain ⟨v0, S0, o0⟩ := index_snd (w := X.w) h2 h6
  obtain ⟨v2, S2, o2⟩ := group_snd (w := X.w) h2 h6
  refine (check_sound (e := true) S0 h2 ok.few x.cod x.h0 (ok0 o0)).use fun H1 e1 y1 => ?_
  have x1 := x.ext y1
  refine (check_sound (e := false) (chain_snd h2 h6) h2 ok.few x1.cod x1.h1 (ok2 (chain_cand X.keys))).use fun H2 e2 y2 => ?_
  have x2 := x1.ext y2
  refine (check_sound (e := false) S2 h2 ok.few x2.cod x2.h2 (ok2 o2)).use fun H3 e3 y3 => ?_
  exact .of (s_skip ((t_orC (check_t (j := 0) x.codes x.blocks x.hbl rfl e1)).trans ((t_orC (check_t (j := 1) x1.codes x1.blocks x1.hbl rfl e2)).trans (t_orC (check_t (j := 2) x2.codes x2.blocks x2.hbl rfl e3)))) rfl) (law_end (x2.ext y3) ok kok h2 h6)
end
theorem rows_ne {H : Hp} {q b i : Nat} {B : List Row} (x : Ints H q) (hb : H[b]? = some (.list (B.map Row.enc))) (h : B ≠ []) : b ∉ [q] := by
  cases B with
  | nil => exact absurd rfl h
  | cons r B =>
    obtain ⟨ws, e⟩ : ∃ ws, r.enc = .tup ws := by cases r <;> exact ⟨_, rfl⟩
    exact (Odd.row x).tup (i := 0) hb (congrArg some e)
theorem Snd.ne {keys : List Key} {w : Int} {B : List Row} {vis : Key → List Int} (S0 : Snd keys w B vis) : B ≠ [] := by
  obtain ⟨hd, tl, e, _⟩ := S0.top
  rw [e]
  cases hd <;> exact fun h => nomatch h
section
variable {m : Loc} {H H' : Hp} {q s f c n b : Nat} {w : Int}
structure LC (q s f c n : Nat) (w : Int) (m : Loc) : Prop where
  cm : CM q c f w m
  ms : m "signs" = some (.ref s)
  mm : m "many" = some (.int n)
theorem law_low {m0 : Loc} (M : LC q s f c n w m0) (hq : q < c) (hw : w ≠ 0) (h2 : 2 ≤ n) (h6 : n ≤ 6) (x : CdI q c s f w m0 (List.range n) m H) : Run (law_t7 m H) fun z => z.1 = .ret (.bool true) ∧ True := by
  obtain ⟨keys, e, kok, hc⟩ := x.cod
  rw [List.length_range] at e
  subst e
  have few : keys.length < 100 := Nat.lt_of_le_of_lt h6 (by decide)
  have ql := x.row.lt
  refine .of (s_asg (keys_eq hc few ((x.loc "codes" (by decide)).trans M.cm.mc)) rfl) ?_
  have x0 : Ext H (H ++ [.list (keys.map Key.enc)]) := .push
  have g0 : (H ++ [O.list (keys.map Key.enc)])[H.length]? = some (.list (keys.map Key.enc)) := get_new
  have hc0 := hc.ext x0
  have sy0 := x.sym.ext x0
  have iv0 := x.row.ext x0 fun h => nomatch h
  have n0 : H.length ∉ [q] := fun h => Nat.lt_irrefl _ (List.mem_singleton.mp h ▸ ql)
  have le0 := x0.2
  have loc := x.loc
  clear x hc x0
  generalize H ++ [O.list (keys.map Key.enc)] = A at *
  refine (calls_ok (m := upd m "keys" (.ref H.length)) g0 few upd_self).use fun cq H1 e1 y1 => .of (s_asg e1 rfl) ?_
  refine (blocks_ok (m := upd (upd m "keys" (.ref H.length)) "calls" (.ref cq)) (hc0.ext y1.ext) (sy0.ext y1.ext) hw h2 h6 ((loc "signs" (by decide)).trans M.ms) ((loc "name" (by decide)).trans M.cm.mn) ((loc "codes" (by decide)).trans M.cm.mc)).use fun bl H2 e2 y2 => .of (s_asg e2 rfl) ?_
  obtain ⟨b0, b1, b2, g1, g2, g3, g4⟩ := y2.list
  have y := y1.ext.trans y2.ext
  have iv := iv0.ext y fun h => nomatch h
  have big : ∀ {i : Nat}, H.length ≤ i → i ∉ [q] := fun h e => Nat.lt_irrefl _ (Nat.lt_of_lt_of_le ql (List.mem_singleton.mp e ▸ h))
  have bA : ∀ {i : Nat}, A.length ≤ i → i ∉ [q] := fun h => big (Nat.le_trans le0 h)
  obtain ⟨v0, S0, _⟩ := index_snd (w := w) h2 h6
  obtain ⟨v2, S2, _⟩ := group_snd (w := w) h2 h6
  have ok : LX.Ok ⟨q, c, H.length, cq, bl, b0, b1, b2, keys, w⟩ := ⟨few, fun i hi => by
    rcases hi with _ | ⟨_, _ | ⟨_, _ | ⟨_, _ | ⟨_, _ | ⟨_, _ | ⟨_, _ | ⟨_, h⟩⟩⟩⟩⟩⟩⟩
    · exact fun h => Nat.lt_irrefl q (Nat.lt_of_lt_of_eq hq (List.mem_singleton.mp h))
    · exact n0
    · exact bA y1.new
    · exact bA (Nat.le_trans y1.ext.2 y2.new)
    · exact rows_ne (i := 0) iv g2 S0.ne
    · exact rows_ne (i := 0) iv g3 (chain_snd (w := w) h2 h6).ne
    · exact rows_ne (i := 0) iv g4 S2.ne
    · cases h⟩
  refine law_mid (X := ⟨q, c, H.length, cq, bl, b0, b1, b2, keys, w⟩) ⟨fun p hp => ?_, iv, hc0.ext y, Ext.get y g0, y2.ext.get y1.list, g1, g2, g3, g4⟩ ok kok h2 h6
  rcases hp with _ | ⟨_, _ | ⟨_, _ | ⟨_, _ | ⟨_, _ | ⟨_, _ | ⟨_, _ | ⟨_, h⟩⟩⟩⟩⟩⟩⟩
  · exact (loc "row" (by decide)).trans M.cm.mr
  · exact (loc "wide" (by decide)).trans M.cm.mw
  · exact (loc "many" (by decide)).trans M.mm
  · exact (loc "codes" (by decide)).trans M.cm.mc
  · exact rfl
  · exact rfl
  · exact rfl
  · cases h
structure LN (q s f : Nat) (w : Int) (m : Loc) : Prop where
  mr : m "row" = some (.ref q)
  ms : m "signs" = some (.ref s)
  mw : m "wide" = some (.int w)
  mn : m "name" = some (.int f)
theorem LN.upd {y : String} {v : V} (x : LN q s f w m) (h : y ∉ ["row", "signs", "wide", "name"]) : LN q s f w (upd m y v) :=
  ⟨(upd_ne fun (e : "row" = y) => h (by rw [← e]; decide)).trans x.mr, (upd_ne fun (e : "signs" = y) => h (by rw [← e]; decide)).trans x.ms, (upd_ne fun (e : "wide" = y) => h (by rw [← e]; decide)).trans x.mw, (upd_ne fun (e : "name" = y) => h (by rw [← e]; decide)).trans x.mn⟩
theorem law_codes (M : LN q s f w m) (hw : w ≠ 0) (iv : Ints H q) (sy : SymAt H s f w) : Run (law_t4 m H) fun z => z.1 = .ret (.bool true) ∧ True := by
  refine (mod_ok (m := m) (n := 5) (e := E.const (.int 5)) (by decide) iv M.mr fun _ _ => rfl).use fun i H1 e1 hi y => ?_
  obtain ⟨i, rfl⟩ := Int.eq_ofNat_of_zero_le hi.1
  have hi := Int.ofNat_lt.mp hi.2
  refine .of (s_asg ((e_add (i1 := 2) rfl e1).trans (show some (V.int ((2 + i : Nat) : Int), H1) = _ from rfl)) (s_asg e_list0 rfl)) ?_
  have sy1 := (sy.extO (.row iv) y.ext).ext (.push (o := .list []))
  have iv1 := y.row.ext (S := []) (.push (o := .list [])) fun h => nomatch h
  have N := (M.upd (y := "many") (v := .int ((2 + i : Nat) : Int)) (by decide)).upd (y := "codes") (v := .ref H1.length) (by decide)
  exact codes_loop ⟨N.mr, N.mn, rfl, N.mw⟩ (Nat.ne_of_gt y.row.lt) iv1 sy1 ⟨[], get_new, rfl, fun j k h => nomatch h⟩ (Nat.lt_trans (Nat.add_lt_add_left hi 2) (by decide)) rfl fun m' H' z => law_low (s := s) ⟨⟨N.mr, N.mn, rfl, N.mw⟩, N.ms, rfl⟩ y.row.lt hw (Nat.le_add_right 2 i) (Nat.add_le_add_left (Nat.le_of_lt_succ hi) 2) z
theorem SB.draws {H0 : Hp} (x : SB b H0 n H) (e : ExtB [q] H H') (hq : q < b) : SB b (H'.take b) n H' := by
  have far : ∀ {i : Nat}, b ≤ i → i ∉ [q] := fun h e => Nat.lt_irrefl _ (Nat.lt_of_lt_of_le hq (List.mem_singleton.mp e ▸ h))
  refine ⟨e.get (far (Nat.le_refl _)) x.obj, let ⟨ts, a, c⟩ := x.texts; ⟨ts, e.get (far (Nat.le_add_right _ _)) a, c⟩, let ⟨D, a, c⟩ := x.nums; ⟨D, e.get (far (Nat.le_add_right _ _)) a, c⟩, let ⟨fl, a, c, D, d, f⟩ := x.funs; ⟨fl, e.get (far (Nat.le_add_right _ _)) a, c, D, e.get (far (Nat.le_add_right _ _)) d, f⟩, ⟨fun i o _ h => ?_, List.length_take_le' _ _⟩, List.length_take_le _ _⟩
  rw [List.getElem?_take] at h
  split at h
  · exact h
  · cases h
theorem Ints.take (x : Ints H q) (hq : q < b) : Ints (H.take b) q := let ⟨xs, a, c⟩ := x; ⟨xs, by rw [List.getElem?_take, if_pos hq]; exact a, c⟩
end
theorem law_ok {xs : List Int} (hx : xs.length ≤ 63) : RunV (P.law [.frz (xs.map .int)] []) (.bool true) fun _ => True := by
  refine RunV_fn rfl ((row_ok (H := []) hx).use fun q H1 e1 y1 => .of (s_asg (e_call1 (e_var rfl) e1) rfl) (symbols_new.use fun H2 e2 sb => .of (s_asg e2 rfl) ?_))
  have ql := y1.row.lt
  refine (mod_ok (m := upd (upd (args ["script"] [.frz (xs.map .int)]) "row" (.ref q)) "signs" (.ref H1.length)) (n := 3) (e := E.const (.int 3)) (by decide) (y1.row.ext sb.ext fun h => nomatch h) rfl fun _ _ => rfl).use fun i H3 e3 hi y => .of (s_asg (e_add (i1 := 1) rfl e3) rfl) ?_
  have sb3 := sb.draws y.ext ql
  refine (func_ok sb3 "p" (1 + i) (by decide)).use fun f H4 e4 z => .of (s_asg (e_meth2 (e_var rfl) sb3.obj rfl rfl (e_var rfl) e4) rfl) ?_
  exact law_codes (f := f) (w := 1 + i) (s := H1.length) (q := q) ⟨rfl, rfl, rfl, rfl⟩ (by omega) ((y.row.take ql).ext z.sb.ext fun h => nomatch h) z.at_
theorem law_holds : ∀ (xs : List Int), xs.length ≤ 63 → ∃ H', P.law [.frz (xs.map .int)] [] = some (.bool true, H') := fun xs hx => (law_ok hx).use fun H' e _ => ⟨H', e⟩
noncomputable def mgDict (P : Params) : Bool := match (K P).lookup mainGlobals with
  | some ⟨_, _, .dict _ _, _⟩ => true
  | _ => false
theorem mg_eq {w : World} {h : Heap} {mg : Str → Option Value} (X : (K w.params).In h) (N : h.Ns mainGlobals mg) : mg = mgOf w.params := by
  have hd1 : mgDict w.params = true := by kernel_rfl
  obtain ⟨o, es, ep, e, d, sk, f⟩ := N
  funext x
  rw [← f x]
  unfold mgDict at hd1
  split at hd1
  · rename_i hl
    have e2 := X _ _ hl
    rw [e] at e2
    cases e2
    cases d
    unfold mgOf esOf
    rw [hl]
    show (es.find? _).map _ = (es.toList.find? _).map _
    rw [Array.find?_toList]
  · cases hd1
theorem ints_VRs {h0 h : Heap} {μ : List Sl} {vs : List Value} {xs : List Int} (h1 : IntsAre vs xs) : VRs h0 μ h (xs.map .int) vs := by
  induction h1 with
  | nil => exact .nil
  | cons n t _ ih => exact .cons (.int n t) ih
/-- the law called -/
theorem law_run {w : World} {s : Shared} {mg mb : Str → Option Value} {fa la : Addr} {ls : List Value} {xs : List Int} (X : (K w.params).In s.heap) (g : s.heap.Ns mainGlobals mg) (b : s.heap.Ns builtinsNs mb) (lim : s.heap.NoLimit) (bui : ∀ x : Str, x ≠ "__name__" → mb x = bootBuiltins x)
    (hmg : mg (Str.ofString "law") = some (.ref fa)) (hL : s.heap.IsList la ls.toArray) (hI : IntsAre ls xs) (hx : xs.length ≤ 63) :
    codeAny (model Challenge.rw_no0168_01.row.prog w) callerA (.call (.ref fa) ⟨[.ref la], []⟩) (fun r s' => r = .ok (.ret (.bool true)) ∧ (∀ a o, s.heap.get? a = some o → s'.heap.get? a = some o) ∧ s' = { s with heap := s'.heap, toks := s'.toks }) s := by
  have em := mg_eq X g
  subst em
  have hfa : fa = 433 := by
    have h2 : mgOf w.params (Str.ofString "law") = some (.ref 433) := by kernel_rfl
    have h3 := h2.symm.trans hmg
    cases h3
    rfl
  subst hfa
  have gd : Good w s.heap mb := ⟨⟨X, g, b, lim⟩, (bui _ (by decide)).trans (by decide +kernel), (bui _ (by decide)).trans (by decide +kernel), (bui _ (by decide)).trans (by decide +kernel), (bui _ (by decide)).trans (by decide +kernel)⟩
  obtain ⟨H', hl⟩ := law_holds xs hx
  refine codeAny_mono ((sim_law gd).r callerA s [] [] [.frz (xs.map .int)] [.ref la] ⟨rfl, by decide, by decide⟩ ?_ (.cons (.frz hL (ints_VRs hI)) .nil) _ _ hl) ?_
  · exact ⟨fun _ _ e => e, Nat.le_refl _, rfl, (fun a h => by obtain ⟨_, h, _⟩ := h; cases h), (fun i j si sj h => by cases h), (fun i sl o h => by cases h)⟩
  · rintro r s' ⟨μ', v, rfl, S, R⟩
    cases R
    exact ⟨rfl, fun a o e => S.keep a o e (fun h => by obtain ⟨_, h, _⟩ := h; cases h) (fun h => h), S.shape⟩
theorem final : Challenge.rw_no0168_01.Holds := head law_run
end Mine
theorem PySem.Challenge.cw_no0168_01_holds : PySem.Challenge.rw_no0168_01.Holds :=
  Mine.final
