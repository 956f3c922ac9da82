import PyProof.Rows.All
import Wide.All
import KE.KSort
import OpenK.AllK
import Wide.FinOn
import Lean
import PySem.Challenge.RW_pq0572_01
set_option Elab.async false
set_option linter.unusedVariables false
set_option linter.all false
set_option maxRecDepth 100000
set_option maxHeartbeats 20000000
section
open PySem PySem.W PyProof.Rows
namespace Mine
noncomputable def nthSt (n : Nat) : List Stmt → Stmt := Nat.rec (motive := fun _ => List Stmt → Stmt) (fun l => l.headD default) (fun _ ih l => ih l.tail) n
noncomputable def inSt (s : Stmt) (n : Nat) : Stmt := match s with
  | .ClassDef _ _ _ b _ _ _ _ _ _ _ => nthSt n b
  | _ => default
noncomputable def tSt (n : Nat) : Stmt := nthSt n PySem.Challenge.pw_pq0572_01.main.body
noncomputable def cSt (n m : Nat) : Stmt := inSt (tSt n) m
noncomputable def fnO (s : Stmt) (q m : String) (t : Tok) (c : Addr) (dv : Value) : Obj := match s with
  | .FunctionDef n ar b _ _ _ sc _ _ _ => { cls := .type "function", data := .func { name := n, qualname := Str.ofString q, params := ar, body := .stmts b, scope := sc, globals := 3, closure := [], defaults := dv, kwdefaults := .none, pyModule := .str (Str.ofString m) t, code := .ref c } }
  | _ => default
noncomputable def cdO (n : String) (t0 : Tok) (q : String) (t1 t2 : Tok) (ln ac fl : Int) (r8 : Addr) (c : Int) (r11 : Addr) (v12 v13 v14 v15 : Value) (i16 i17 : Int) (t18 : Tok) : Obj :=
  { cls := .type "code", data := .fields #[.str (Str.ofString n) t0, .str (Str.ofString q) t1, .str (Str.ofString "/claim/cut.py") t2, .int ln 0, .int ac 0, .int 0 0, .int 0 0, .int fl 0, .ref r8, .bool true, .int c 0, .ref r11, v12, v13, v14, v15, .int i16 0, .int i17 0, .str (Str.ofString "/claim/cut.py") t18] }
noncomputable def kv (P : Params) (s : String) (t : Tok) (v : Value) : DictEntry := { hash := PyData.keyHash P (Str.ofString s), key := .str (Str.ofString s) t, val := v }
noncomputable def KH (P : Params) : Frag :=
  (nat_lit 3, { cls := Value.type "dict", data := Data.dict #[kv P "__name__" 165 (Value.str (Str.ofString "law_pq0572_01") 598), kv P "__doc__" 166 (Value.none), kv P "__package__" 167 (Value.none), kv P "__loader__" 168 (Value.builtin "__main__.__loader__#opaque"), kv P "__spec__" 169 (Value.none), kv P "__annotations__" 170 (Value.ref 6), kv P "__builtins__" 171 (Value.ref 4), kv P "__file__" 173 (Value.str (Str.ofString "/claim/cut.py") 172), kv P "__cached__" 174 (Value.none), kv P "_wall" 193 (Value.ref 21), kv P "ToolError" 233 (Value.ref 46), kv P "GrammarError" 249 (Value.ref 59), kv P "spread" 257 (Value.ref 66), kv P "nullable" 264 (Value.ref 73), kv P "first_of" 275 (Value.ref 80), kv P "first_masks" 288 (Value.ref 87), kv P "CanonicalState" 333 (Value.ref 109), kv P "first_kernel" 340 (Value.ref 120), kv P "weakly_compatible" 351 (Value.ref 127), kv P "united" 357 (Value.ref 132), kv P "PagerMaker" 418 (Value.ref 168), kv P "END" 422 (Value.int 0 421), kv P "OWN_TERMINALS" 426 (Value.ref 173), kv P "Rule" 471 (Value.ref 191), kv P "Grammar" 581 (Value.ref 273), kv P "last_terminal" 591 (Value.ref 284), kv P "plain_grammar" 597 (Value.ref 290), kv P "_law_box" 605 (Value.ref 295), kv P "_law_draw" 615 (Value.ref 302), kv P "_law_goes" 627 (Value.ref 309), kv P "_law_shares" 636 (Value.ref 316), kv P "_law_kernel" 642 (Value.ref 321), kv P "_law_places_right" 648 (Value.ref 326), kv P "law" 654 (Value.ref 331)] 34 }) ::
  (nat_lit 65, cdO "spread" 252 "spread" 253 254 19 2 3 62 181 63 (Value.none) (Value.none) (Value.none) (Value.ref 64) 255 19 256) ::
  (nat_lit 66, fnO (tSt 5) "spread" "grammarmill.analysis" 250 65 (Value.none)) ::
  (nat_lit 72, cdO "nullable" 258 "nullable" 259 260 45 1 3 67 181 68 (Value.none) (Value.ref 69) (Value.ref 70) (Value.ref 71) 262 45 263) ::
  (nat_lit 73, fnO (tSt 6) "nullable" "grammarmill.analysis" 250 72 (Value.none)) ::
  (nat_lit 79, cdO "first_of" 265 "first_of" 266 267 47 3 3 74 181 75 (Value.none) (Value.ref 76) (Value.ref 77) (Value.ref 78) 273 47 274) ::
  (nat_lit 80, fnO (tSt 7) "first_of" "grammarmill.analysis" 250 79 (Value.none)) ::
  (nat_lit 86, cdO "first_masks" 276 "first_masks" 277 278 54 1 3 81 181 82 (Value.none) (Value.ref 83) (Value.ref 84) (Value.ref 85) 286 54 287) ::
  (nat_lit 87, fnO (tSt 8) "first_masks" "grammarmill.analysis" 250 86 (Value.none)) ::
  (nat_lit 98, cdO "__init__" 303 "CanonicalState.__init__" 304 305 71 4 3 95 181 96 (Value.none) (Value.none) (Value.none) (Value.ref 97) 306 71 307) ::
  (nat_lit 99, fnO (cSt 10 0) "CanonicalState.__init__" "grammarmill.canonical" 289 98 (Value.none)) ::
  (nat_lit 108, { cls := Value.type "dict", data := Data.dict #[kv P "__module__" 298 (Value.str (Str.ofString "grammarmill.canonical") 289), kv P "__firstlineno__" 302 (Value.int 69 301), kv P "__init__" 308 (Value.ref 99), kv P "set_items" 317 (Value.ref 106), kv P "__static_attributes__" 326 (Value.ref 107), kv P "__dict__" 328 (Value.ref 110), kv P "__weakref__" 330 (Value.ref 111), kv P "__doc__" 331 (Value.none)] 4 }) ::
  (nat_lit 109, { cls := Value.type "type", data := Data.cls { name := Str.ofString "CanonicalState", bases := [Value.type "object"], mro := [Value.ref 109, Value.type "object"], ns := 108, qualname := Str.ofString "CanonicalState" }, slots := #[none, none, some (Value.str (Str.ofString "CanonicalState") 291), some (Value.str (Str.ofString "CanonicalState") 299), some (Value.builtin "object.__new__"), some (Value.bool true)] }) ::
  (nat_lit 119, cdO "first_kernel" 334 "first_kernel" 335 336 83 1 3 114 181 115 (Value.none) (Value.ref 116) (Value.ref 117) (Value.ref 118) 338 83 339) ::
  (nat_lit 120, fnO (tSt 11) "first_kernel" "grammarmill.canonical" 289 119 (Value.none)) ::
  (nat_lit 126, cdO "weakly_compatible" 341 "weakly_compatible" 342 343 85 2 3 121 181 122 (Value.none) (Value.ref 123) (Value.ref 124) (Value.ref 125) 349 85 350) ::
  (nat_lit 127, fnO (tSt 12) "weakly_compatible" "grammarmill.canonical" 289 126 (Value.none)) ::
  (nat_lit 131, cdO "united" 352 "united" 353 354 95 2 3 128 181 129 (Value.none) (Value.none) (Value.none) (Value.ref 130) 355 95 356) ::
  (nat_lit 132, fnO (tSt 13) "united" "grammarmill.canonical" 289 131 (Value.none)) ::
  (nat_lit 145, cdO "__init__" 370 "PagerMaker.__init__" 371 372 99 3 3 140 181 141 (Value.none) (Value.ref 142) (Value.ref 143) (Value.ref 144) 376 99 377) ::
  (nat_lit 146, fnO (cSt 14 0) "PagerMaker.__init__" "grammarmill.canonical" 289 145 (Value.none)) ::
  (nat_lit 152, cdO "add" 379 "PagerMaker.add" 380 381 110 3 3 147 181 148 (Value.none) (Value.ref 149) (Value.ref 150) (Value.ref 151) 387 110 388) ::
  (nat_lit 153, fnO (cSt 14 1) "PagerMaker.add" "grammarmill.canonical" 289 152 (Value.none)) ::
  (nat_lit 157, cdO "place" 390 "PagerMaker.place" 391 392 121 4 3 154 181 155 (Value.none) (Value.none) (Value.none) (Value.ref 156) 393 121 394) ::
  (nat_lit 158, fnO (cSt 14 2) "PagerMaker.place" "grammarmill.canonical" 289 157 (Value.none)) ::
  (nat_lit 167, { cls := Value.type "dict", data := Data.dict #[kv P "__module__" 365 (Value.str (Str.ofString "grammarmill.canonical") 289), kv P "__firstlineno__" 369 (Value.int 97 368), kv P "__init__" 378 (Value.ref 146), kv P "add" 389 (Value.ref 153), kv P "place" 395 (Value.ref 158), kv P "work" 402 (Value.ref 165), kv P "__static_attributes__" 411 (Value.ref 166), kv P "__dict__" 413 (Value.ref 169), kv P "__weakref__" 415 (Value.ref 170), kv P "__doc__" 416 (Value.none)] 4 }) ::
  (nat_lit 168, { cls := Value.type "type", data := Data.cls { name := Str.ofString "PagerMaker", bases := [Value.type "object"], mro := [Value.ref 168, Value.type "object"], ns := 167, qualname := Str.ofString "PagerMaker" }, slots := #[none, none, some (Value.str (Str.ofString "PagerMaker") 358), some (Value.str (Str.ofString "PagerMaker") 366), some (Value.builtin "object.__new__"), some (Value.bool true)] }) ::
  (nat_lit 173, { cls := Value.type "tuple", data := Data.seq #[Value.str (Str.ofString "$end") 423, Value.str (Str.ofString "error") 424, Value.str (Str.ofString "$undefined") 425] }) ::
  (nat_lit 181, { cls := Value.type "tuple", data := Data.seq #[Value.int (-1) 440, Value.none, Value.int 0 441, Value.int 0 442] }) ::
  (nat_lit 187, cdO "__init__" 443 "Rule.__init__" 444 445 145 8 3 182 181 183 (Value.none) (Value.ref 184) (Value.ref 185) (Value.ref 186) 454 145 455) ::
  (nat_lit 188, fnO (cSt 18 0) "Rule.__init__" "grammarmill.grammar" 419 187 (Value.ref 181)) ::
  (nat_lit 190, { cls := Value.type "dict", data := Data.dict #[kv P "__module__" 434 (Value.str (Str.ofString "grammarmill.grammar") 419), kv P "__firstlineno__" 438 (Value.int 143 437), kv P "__init__" 456 (Value.ref 188), kv P "__static_attributes__" 464 (Value.ref 189), kv P "__dict__" 466 (Value.ref 192), kv P "__weakref__" 468 (Value.ref 193), kv P "__doc__" 469 (Value.none)] 4 }) ::
  (nat_lit 191, { cls := Value.type "type", data := Data.cls { name := Str.ofString "Rule", bases := [Value.type "object"], mro := [Value.ref 191, Value.type "object"], ns := 190, qualname := Str.ofString "Rule" }, slots := #[none, none, some (Value.str (Str.ofString "Rule") 427), some (Value.str (Str.ofString "Rule") 435), some (Value.builtin "object.__new__"), some (Value.bool true)] }) ::
  (nat_lit 206, cdO "__init__" 484 "Grammar.__init__" 485 486 155 7 3 203 181 204 (Value.none) (Value.none) (Value.none) (Value.ref 205) 487 155 488) ::
  (nat_lit 207, fnO (cSt 19 0) "Grammar.__init__" "grammarmill.grammar" 419 206 (Value.none)) ::
  (nat_lit 213, cdO "symbol_count" 490 "Grammar.symbol_count" 491 492 171 1 3 208 181 209 (Value.none) (Value.ref 210) (Value.ref 211) (Value.ref 212) 494 171 495) ::
  (nat_lit 214, fnO (cSt 19 1) "Grammar.symbol_count" "grammarmill.grammar" 419 213 (Value.none)) ::
  (nat_lit 220, cdO "is_terminal" 497 "Grammar.is_terminal" 498 499 174 2 3 215 181 216 (Value.none) (Value.ref 217) (Value.ref 218) (Value.ref 219) 502 174 503) ::
  (nat_lit 221, fnO (cSt 19 2) "Grammar.is_terminal" "grammarmill.grammar" 419 220 (Value.none)) ::
  (nat_lit 248, cdO "item" 529 "Grammar.item" 530 531 186 3 3 243 181 244 (Value.none) (Value.ref 245) (Value.ref 246) (Value.ref 247) 535 186 536) ::
  (nat_lit 249, fnO (cSt 19 6) "Grammar.item" "grammarmill.grammar" 419 248 (Value.none)) ::
  (nat_lit 272, { cls := Value.type "dict", data := Data.dict #[kv P "__module__" 479 (Value.str (Str.ofString "grammarmill.grammar") 419), kv P "__firstlineno__" 483 (Value.int 153 482), kv P "__init__" 489 (Value.ref 207), kv P "symbol_count" 496 (Value.ref 214), kv P "is_terminal" 504 (Value.ref 221), kv P "is_middle" 512 (Value.ref 228), kv P "number" 520 (Value.ref 235), kv P "rules_of" 528 (Value.ref 242), kv P "item" 537 (Value.ref 249), kv P "rule_of" 545 (Value.ref 256), kv P "dot_of" 553 (Value.ref 263), kv P "after" 563 (Value.ref 270), kv P "__static_attributes__" 574 (Value.ref 271), kv P "__dict__" 576 (Value.ref 274), kv P "__weakref__" 578 (Value.ref 275), kv P "__doc__" 579 (Value.none)] 4 }) ::
  (nat_lit 273, { cls := Value.type "type", data := Data.cls { name := Str.ofString "Grammar", bases := [Value.type "object"], mro := [Value.ref 273, Value.type "object"], ns := 272, qualname := Str.ofString "Grammar" }, slots := #[none, none, some (Value.str (Str.ofString "Grammar") 472), some (Value.str (Str.ofString "Grammar") 480), some (Value.builtin "object.__new__"), some (Value.bool true)] }) ::
  (nat_lit 283, cdO "last_terminal" 582 "last_terminal" 583 584 199 2 3 278 181 279 (Value.none) (Value.ref 280) (Value.ref 281) (Value.ref 282) 589 199 590) ::
  (nat_lit 284, fnO (tSt 20) "last_terminal" "grammarmill.grammar" 419 283 (Value.none)) ::
  (nat_lit 285, { cls := Value.type "tuple", data := Data.seq #[Value.none] }) ::
  (nat_lit 289, cdO "plain_grammar" 592 "plain_grammar" 593 594 205 2 3 286 181 287 (Value.none) (Value.none) (Value.none) (Value.ref 288) 595 205 596) ::
  (nat_lit 290, fnO (tSt 21) "plain_grammar" "grammarmill.grammar" 419 289 (Value.ref 285)) ::
  (nat_lit 294, cdO "_law_box" 600 "_law_box" 601 602 228 1 3 291 181 292 (Value.none) (Value.none) (Value.none) (Value.ref 293) 603 228 604) ::
  (nat_lit 295, fnO (tSt 23) "_law_box" "law_pq0572_01" 598 294 (Value.none)) ::
  (nat_lit 301, cdO "_law_draw" 606 "_law_draw" 607 608 237 2 3 296 181 297 (Value.none) (Value.ref 298) (Value.ref 299) (Value.ref 300) 613 237 614) ::
  (nat_lit 302, fnO (tSt 24) "_law_draw" "law_pq0572_01" 598 301 (Value.none)) ::
  (nat_lit 308, cdO "_law_goes" 616 "_law_goes" 617 618 248 2 3 303 181 304 (Value.none) (Value.ref 305) (Value.ref 306) (Value.ref 307) 625 248 626) ::
  (nat_lit 309, fnO (tSt 25) "_law_goes" "law_pq0572_01" 598 308 (Value.none)) ::
  (nat_lit 315, cdO "_law_shares" 628 "_law_shares" 629 630 256 1 3 310 181 311 (Value.none) (Value.ref 312) (Value.ref 313) (Value.ref 314) 634 256 635) ::
  (nat_lit 316, fnO (tSt 26) "_law_shares" "law_pq0572_01" 598 315 (Value.none)) ::
  (nat_lit 320, cdO "_law_kernel" 637 "_law_kernel" 638 639 262 1 3 317 181 318 (Value.none) (Value.none) (Value.none) (Value.ref 319) 640 262 641) ::
  (nat_lit 321, fnO (tSt 27) "_law_kernel" "law_pq0572_01" 598 320 (Value.none)) ::
  (nat_lit 325, cdO "_law_places_right" 643 "_law_places_right" 644 645 264 3 3 322 181 323 (Value.none) (Value.none) (Value.none) (Value.ref 324) 646 264 647) ::
  (nat_lit 326, fnO (tSt 28) "_law_places_right" "law_pq0572_01" 598 325 (Value.none)) ::
  (nat_lit 330, cdO "law" 649 "law" 650 651 285 1 3 327 181 328 (Value.none) (Value.none) (Value.none) (Value.ref 329) 652 285 653) ::
  (nat_lit 331, fnO (tSt 29) "law" "law_pq0572_01" 598 330 (Value.none)) :: []
noncomputable def asH : List Addr := [3, 65, 66, 72, 73, 79, 80, 86, 87, 98, 99, 108, 109, 119, 120, 126, 127, 131, 132, 145, 146, 152, 153, 157, 158, 167, 168, 173, 181, 187, 188, 190, 191, 206, 207, 213, 214, 220, 221, 248, 249, 272, 273, 283, 284, 285, 289, 290, 294, 295, 301, 302, 308, 309, 315, 316, 320, 321, 325, 326, 330, 331]
noncomputable def VH : Program := { PySem.Challenge.pw_pq0572_01 with main := { PySem.Challenge.pw_pq0572_01.main with body := [tSt 29] } }
end Mine
end
section
open PySem PySem.W PyProof.Rows
namespace Mine
noncomputable def HK : Hook := kHook KH asH (fun _ => rfl)
noncomputable def loose0 : List Str := [Str.ofString "_wall", Str.ofString "ToolError", Str.ofString "GrammarError", Str.ofString "spread", Str.ofString "nullable", Str.ofString "first_of", Str.ofString "first_masks", Str.ofString "CanonicalState", Str.ofString "first_kernel", Str.ofString "weakly_compatible", Str.ofString "united", Str.ofString "PagerMaker", Str.ofString "END", Str.ofString "OWN_TERMINALS", Str.ofString "Rule", Str.ofString "Grammar", Str.ofString "last_terminal", Str.ofString "plain_grammar", Str.ofString "_law_box", Str.ofString "_law_draw", Str.ofString "_law_goes", Str.ofString "_law_shares", Str.ofString "_law_kernel", Str.ofString "_law_places_right"]
theorem t1 : PySem.Challenge.rw_pq0572_01.wellSaid = true := by kernel_rfl
noncomputable def impT (tb : String → Option Builtin) (p : Program) (w : World) (n : Nat) : SharedT → Thread → Option SharedT :=
  Nat.rec (motive := fun _ => SharedT → Thread → Option SharedT) (fun _ _ => none) (fun _ ih s t => match t.atExitBegin with
    | some [] => some s
    | some (_ :: _) => none
    | none => (stepT (denote tb) p w s t).bind fun r => ih r.1 r.2) n
theorem impT_of {tb : String → Option Builtin} {p : Program} {w : World} (n : Nat) : ∀ {s s' : SharedT} {t : Thread}, impT tb p w n s t = some s' → importEnds tb p w n s.abs t = some s'.abs := by
  induction n with
  | zero => intro s s' t h; cases h
  | succ n ih =>
    intro s s' t h
    replace h : (match t.atExitBegin with
      | some [] => some s
      | some (_ :: _) => none
      | none => (stepT (denote tb) p w s t).bind fun r => impT tb p w n r.1 r.2) = some s' := h
    show (match t.atExitBegin with
      | some [] => some s.abs
      | some (_ :: _) => none
      | none => match step (denote tb) p w s.abs t with
        | .go s' t' => importEnds tb p w n s' t'
        | .halt _ _ => none) = some s'.abs
    generalize t.atExitBegin = x at h
    cases x with
    | some x => cases x with
      | nil => cases h; rfl
      | cons _ _ => cases h
    | none =>
      obtain ⟨r, h1, h2⟩ := Option.bind_eq_some_iff.mp h
      dsimp only
      rw [stepT_spec h1]; exact ih h2
noncomputable def topT (tb : String → Option Builtin) (p : Program) (w : World) (n₀ : Nat) (ann : Option Value) (n : Nat) : SharedT → Thread → Option SharedT :=
  Nat.rec (motive := fun _ => SharedT → Thread → Option SharedT) (fun _ _ => none) (fun _ ih s t => bif through t then some s else
    bif stepOk n₀ ann t then (stepT (denote tb) p w s t).bind fun r => ih r.1 r.2 else none) n
theorem topT_of {tb : String → Option Builtin} {p : Program} {w : World} {n₀ : Nat} {ann : Option Value} (n : Nat) : ∀ {s s' : SharedT} {t : Thread}, topT tb p w n₀ ann n s t = some s' → topRun tb p w n₀ ann n s.abs t = some s'.abs := by
  induction n with
  | zero => intro s s' t h; cases h
  | succ n ih =>
    intro s s' t h
    replace h : (bif through t then some s else bif stepOk n₀ ann t then (stepT (denote tb) p w s t).bind fun r => topT tb p w n₀ ann n r.1 r.2 else none) = some s' := h
    show (match through t with
      | true => some s.abs
      | false => match stepOk n₀ ann t with
        | false => none
        | true => match step (denote tb) p w s.abs t with
          | .go s' t' => topRun tb p w n₀ ann n s' t'
          | .halt _ _ => none) = some s'.abs
    generalize through t = x at h
    cases x with
    | true => cases h; rfl
    | false =>
      replace h : (bif stepOk n₀ ann t then (stepT (denote tb) p w s t).bind fun r => topT tb p w n₀ ann n r.1 r.2 else none) = some s' := h
      generalize stepOk n₀ ann t = y at h
      cases y with
      | false => cases h
      | true =>
        obtain ⟨r, h1, h2⟩ := Option.bind_eq_some_iff.mp (show (stepT (denote tb) p w s t).bind (fun r => topT tb p w n₀ ann n r.1 r.2) = some s' from h)
        dsimp only
        rw [stepT_spec h1]; exact ih h2
noncomputable def treeL (l : List Obj) : BT × Nat := List.rec (motive := fun _ => BT × Nat → BT × Nat) (fun q => q) (fun o _ ih q => ih (q.1.ins q.2 o, q.2 + 1)) l (.nil, 0)
noncomputable abbrev PG : Program := PySem.Challenge.rw_pq0572_01.row.prog
noncomputable def s0T : SharedT := match (start (opening PG)).1 with | ⟨⟨o, life⟩, gs, d, k, os⟩ => ⟨(treeL o.toList).1, o.toList.length, life, gs, d, k, os⟩
theorem s0_abs : s0T.abs = (start (opening PG)).1 := by kernel_rfl
noncomputable def eT (w : World) : Option (SharedT × SharedT) := (impT treeTable (opening PG) w 5000 s0T (start (opening PG)).2).bind fun s1 => (topT treeTable PG w s1.abs.heap.objs.size (s1.abs.heap.nsMap mainGlobals "__annotations__") 5000 s1 (topStub PG)).map fun s2 => (s1, s2)
theorem t2T : ∀ w, (eT w).map (fun q => (q.1.abs.heap.isNs mainGlobals && q.1.abs.gens.size == 0, staticsOk (importedModules PG.main.body) q.1.abs.heap q.2.abs.heap && namesBound PG q.2.abs.heap && gensDone q.2.abs && laidKept q.1.abs.heap q.2.abs.heap,
    openSeen VH loose0 (importedModules PG.main.body) (fun s => xlAt VH [] s && recOk (RowW.records PySem.Challenge.rw_pq0572_01.row.toRowW) s) true q.2.abs, HK.obs q.2.abs)) = some (true, true, openGood VH loose0, HK.val w) := by
  intro w
  kernel_rfl
theorem t2b : ∀ s, fenceModules? PG s = some s := by intro s; kernel_rfl
theorem t2 : ∀ w, (openEnds treeTable PySem.Challenge.rw_pq0572_01.row.prog w 5000).map (fun s => (openSeen VH loose0 (importedModules PySem.Challenge.rw_pq0572_01.row.prog.main.body) (fun s => xlAt VH [] s && recOk (RowW.records PySem.Challenge.rw_pq0572_01.row.toRowW) s) true s, HK.obs s)) = some (openGood VH loose0, HK.val w) := by
  intro w
  obtain ⟨⟨s1, s2⟩, e, e'⟩ := Option.map_eq_some_iff.mp (t2T w)
  obtain ⟨a1, e'⟩ := Prod.mk.inj e'
  obtain ⟨a2, e'⟩ := Prod.mk.inj e'
  unfold eT at e
  obtain ⟨s1', h1, e⟩ := Option.bind_eq_some_iff.mp e
  obtain ⟨s2', h2, e⟩ := Option.map_eq_some_iff.mp e
  obtain ⟨rfl, rfl⟩ := Prod.mk.inj e
  have f1 := impT_of _ h1
  have f2 := topT_of _ h2
  rw [s0_abs] at f1
  have g1 : fencedOpening treeTable PG w 5000 = some s1'.abs := by
    unfold fencedOpening
    rw [f1]
    exact t2b _
  have g2 : topFrom treeTable PG w 5000 s1'.abs = some s2'.abs := by
    unfold topFrom
    dsimp only at a1 a2
    rw [a1]
    dsimp only
    rw [f2]
    show (match _ with | true => some s2'.abs | false => none) = _
    rw [a2]
  show ((fencedOpening treeTable PG w 5000).bind (topFrom treeTable PG w 5000)).map _ = _
  rw [g1]
  show (topFrom treeTable PG w 5000 s1'.abs).map _ = _
  rw [g2]
  exact congrArg some e'
end Mine
end
section
open PySem PySem.W PyProof.Rows
namespace Mine
noncomputable def vals (m : Nat) : List Nat := (List.range 5).filter fun v => m.testBit v
noncomputable def ents (tk : Nat → Tok) (m : Nat) : List (Int × Value) := (vals m).map fun (v : Nat) => ((v : Int), Value.int (v : Int) (tk v))
noncomputable def hashes (m : Nat) : Array Int := ((vals m).map fun (v : Nat) => (v : Int)).toArray
noncomputable def tab (k m f : Nat) (l : Bool) (mv : Nat) : SetTable := ⟨k, (vals m).toArray, #[], f, l, mv, true⟩
noncomputable def okMask (k n : Nat) : Bool := (k == 7 || k == 15 || k == 31) && decide (n * 5 < k * 3)
theorem probe_go_congr {t t' : SetTable} (hm : t.mask = t'.mask) (hp : t.place = t'.place) (hd : t.dummies = t'.dummies) (ha : Nat → Int) (h : Int) :
    ∀ (fuel : Nat) (p : SetTable.Probe), SetTable.probe.go t ha h fuel p = SetTable.probe.go t' ha h fuel p := by
  have hs : ∀ j, t.slot j = t'.slot j := fun j => by simp only [SetTable.slot, hp, hd]
  have hadv : ∀ p, t.advance p = t'.advance p := fun p => by simp only [SetTable.advance, hm]
  intro fuel
  induction fuel with
  | zero => intro p; rfl
  | succ n ih =>
    intro p
    simp only [SetTable.probe.go, hs, hadv, ih]
theorem freeSlot_congr {t t' : SetTable} (hm : t.mask = t'.mask) (hp : t.place = t'.place) (hd : t.dummies = t'.dummies) (h : Int) : t.freeSlot h = t'.freeSlot h := by
  unfold SetTable.freeSlot SetTable.probe
  rw [probe_go_congr hm hp hd, hm]
  have : t.probeStart h = t'.probeStart h := by simp only [SetTable.probeStart, hm]
  rw [this]
theorem freeSlot_all : ∀ k ∈ [7, 15, 31], ∀ m ∈ List.range 32, ∀ v ∈ List.range 5, m.testBit v = false →
    (tab k m 0 true 0).freeSlot (v : Int) = some (v, false) := by decide +kernel
theorem below_all : ∀ m ∈ List.range 32, ∀ v ∈ List.range 5, m.testBit v = false →
    SetTable.insertAt (vals m).toArray (SetTable.below (vals m).toArray v) v = (vals (m ||| 2 ^ v)).toArray ∧
    SetTable.below (vals m).toArray v = (List.filter (fun u => decide (u < v)) (vals m)).length := by decide +kernel
theorem layClean_all : ∀ k ∈ [7, 15, 31], ∀ m ∈ List.range 32, 
    ((SetTable.layClean k (hashes m)).map fun owner => (List.range (k + 1)).filterMap fun j => (owner.getD j none).map (j, ·)) = some ((vals m).zip (List.range (vals m).length)) := by decide +kernel
theorem mask_cases {k n : Nat} (h : okMask k n = true) : k ∈ [7, 15, 31] ∧ n * 5 < k * 3 := by
  simp only [okMask, Bool.and_eq_true, Bool.or_eq_true, beq_iff_eq, decide_eq_true_eq] at h
  exact ⟨by simp; omega, h.2⟩
theorem freeSlot_tab {k m v f mv : Nat} {l : Bool} (hk : k ∈ [7, 15, 31]) (hm : m < 32) (hv : v < 5) (hb : m.testBit v = false) :
    (tab k m f l mv).freeSlot (v : Int) = some (v, false) := by
  have h1 := freeSlot_all k hk m (List.mem_range.mpr hm) v (List.mem_range.mpr hv) hb
  have h2 : (tab k m f l mv).freeSlot (v : Int) = (tab k m 0 true 0).freeSlot (v : Int) := freeSlot_congr (by rfl) (by rfl) (by rfl) _
  rw [h2, h1]
theorem vals_len_all : ∀ m ∈ List.range 32, (vals m).length ≤ 5 ∧ ∀ v ∈ List.range 5, m.testBit v = false → (vals (m ||| 2 ^ v)).length = (vals m).length + 1 := by decide +kernel
theorem vals_len {m : Nat} (hm : m < 32) : (vals m).length ≤ 5 := (vals_len_all m (by simpa using hm)).1
theorem vals_len_put {m v : Nat} (hm : m < 32) (hv : v < 5) (hb : m.testBit v = false) : (vals (m ||| 2 ^ v)).length = (vals m).length + 1 := (vals_len_all m (by simpa using hm)).2 v (by simpa using hv) hb
theorem mem_vals {m v : Nat} : v ∈ vals m ↔ v < 5 ∧ m.testBit v = true := by simp [vals]
theorem put_lt {m v : Nat} (hm : m < 32) (hv : v < 5) : m ||| 2 ^ v < 32 := by
  have : 2 ^ v < 2 ^ 5 := Nat.pow_lt_pow_right (by omega) hv
  exact Nat.or_lt_two_pow (n := 5) hm this
theorem ents_put {m v : Nat} (tk : Nat → Tok) (t : Tok) (hm : m < 32) (hv : v < 5) (hb : m.testBit v = false) :
    SetTable.insertAt (ents tk m).toArray (SetTable.below (vals m).toArray v) ((v : Int), Value.int (v : Int) t) = (ents (fun u => if u = v then t else tk u) (m ||| 2 ^ v)).toArray := by
  obtain ⟨h1, _⟩ := below_all m (by simpa using hm) v (by simpa using hv) hb
  generalize SetTable.below (vals m).toArray v = p at h1 ⊢
  have e : (ents tk m).toArray = (vals m).toArray.map fun (u : Nat) => ((u : Int), Value.int (u : Int) ((fun u => if u = v then t else tk u) u)) := by
    simp only [ents, List.map_toArray]
    congr 1
    refine List.map_congr_left fun u hu => ?_
    have : u ≠ v := fun q => by subst q; have := (mem_vals.mp hu).2; rw [hb] at this; cases this
    simp [this]
  have e2 : (ents (fun u => if u = v then t else tk u) (m ||| 2 ^ v)).toArray = (vals (m ||| 2 ^ v)).toArray.map fun (u : Nat) => ((u : Int), Value.int (u : Int) ((fun u => if u = v then t else tk u) u)) := by
    simp only [ents, List.map_toArray]
  rw [e, e2, ← h1]
  simp only [SetTable.insertAt]
  simp
theorem layNew_tab {k m v f mv : Nat} {l : Bool} (tk : Nat → Tok) (t : Tok) (hk : okMask k (vals m).length = true) (hm : m < 32) (hv : v < 5) (hb : m.testBit v = false) :
    layNew (tab k m f l mv) (ents tk m).toArray (v : Int) (Value.int (v : Int) t) = ((ents (fun u => if u = v then t else tk u) (m ||| 2 ^ v)).toArray, tab k (m ||| 2 ^ v) f l mv, false, false) := by
  obtain ⟨hk1, hk2⟩ := mask_cases hk
  unfold layNew
  rw [freeSlot_tab hk1 hm hv hb]
  dsimp only
  have hput : (tab k m f l mv).put v = (tab k (m ||| 2 ^ v) f l mv, SetTable.below (vals m).toArray v) := by
    obtain ⟨h1, _⟩ := below_all m (by simpa using hm) v (by simpa using hv) hb
    unfold SetTable.put tab
    dsimp only
    rw [h1]
    rfl
  rw [hput]
  dsimp only
  rw [ents_put tk t hm hv hb]
  have hfit : (tab k (m ||| 2 ^ v) f l mv).fits (ents (fun u => if u = v then t else tk u) (m ||| 2 ^ v)).toArray.size = true := by
    have := vals_len (put_lt hm hv)
    simp only [SetTable.fits, SetTable.fill, tab, ents, List.size_toArray, List.length_map, List.size_toArray, beq_self_eq_true, Bool.true_and, decide_eq_true_eq]
    have : 7 ≤ k := by simp at hk1; omega
    simp; omega
  unfold SetTable.orStandIn
  rw [hfit]
  simp
theorem laid_tab {k m f mv : Nat} {l : Bool} (hk : k ∈ [7, 15, 31]) (hm : m < 32) :
    SetTable.laid k f mv l true (hashes m) = some (tab k m f l mv, (List.range (vals m).length).toArray) := by
  have h := layClean_all k hk m (by simpa using hm)
  unfold SetTable.laid
  cases hc : SetTable.layClean k (hashes m) with
  | none => rw [hc] at h; cases h
  | some owner =>
    rw [hc] at h
    simp only [Option.map_some, Option.some.injEq] at h
    simp only [Option.bind_eq_bind, Option.bind_some]
    rw [h]
    simp [tab, List.map_fst_zip, List.map_snd_zip]
end Mine
end
section
open PySem PySem.W PyProof.Rows
namespace Mine
noncomputable def setO (tk : Nat → Tok) (m ep k f : Nat) (l : Bool) (mv : Nat) : Obj := { cls := .type "set", dict := none, data := .set (ents tk m).toArray ep (tab k m f l mv), slots := #[] }
noncomputable def IsM (bt : Bool) (m : Nat) (o : Obj) : Prop :=
  m < 32 ∧ ∃ tk ep k f l mv, o = setO tk m ep k f l mv ∧ okMask k (vals m).length = true ∧ (l = true ∨ bt = true)
noncomputable abbrev byT (w : World) : Bool := w.params.followText "set-order"
section
variable {prog : Program} {w : World} {A : Around} {E : Value → Shared → Prop} {s : Shared}
theorem ents_elems (tk : Nat → Tok) (m : Nat) : ElemsOf (intKind prog w) (ents tk m).toArray.toList := by
  intro e he
  simp only [ents, List.mem_map] at he
  obtain ⟨v, hv, rfl⟩ := he
  refine ⟨⟨(v : Int), by simp [intKind, Value.isInt], ?_⟩, rfl⟩
  have h5 := (mem_vals.mp hv).1
  show ((v : Int)) = hashInt (v : Int)
  rcases (show v = 0 ∨ v = 1 ∨ v = 2 ∨ v = 3 ∨ v = 4 by omega) with rfl | rfl | rfl | rfl | rfl <;> decide +kernel
theorem hashInt_small {v : Nat} (h5 : v < 5) : hashInt (v : Int) = (v : Int) := by
  rcases (show v = 0 ∨ v = 1 ∨ v = 2 ∨ v = 3 ∨ v = 4 by omega) with rfl | rfl | rfl | rfl | rfl <;> decide +kernel
theorem ents_size (tk : Nat → Tok) (m : Nat) : (ents tk m).toArray.size = (vals m).length := by simp [ents]
theorem tab_fits {k m f mv : Nat} {l : Bool} (hk : okMask k (vals m).length = true) : (tab k m f l mv).fits (vals m).length = true := by
  obtain ⟨hk1, hk2⟩ := mask_cases hk
  simp only [SetTable.fits, SetTable.fill, tab, List.size_toArray, beq_self_eq_true, Bool.true_and, decide_eq_true_eq]
  simp; omega
theorem is_ent {v : Nat} {e : Int × Value} {tk : Nat → Tok} {m : Nat} (he : e ∈ ents tk m) : (intKind prog w).is (v : Int) e.2 = true ↔ e.1 = (v : Int) := by
  simp only [ents, List.mem_map] at he
  obtain ⟨u, hu, rfl⟩ := he
  simp [intKind, Value.isInt]
theorem state_M {a : Addr} {tk : Nat → Tok} {m ep k f : Nat} {l : Bool} {mv : Nat} {Q : (Array (Int × Value) × Nat × SetTable) → Shared → Prop}
    (ho : s.heap.get? a = some (setO tk m ep k f l mv)) (hk : okMask k (vals m).length = true) (h : Q ((ents tk m).toArray, ep, tab k m f l mv) s) : wpAny (model prog w) A (setState a) Q E s :=
  wpAny_setState_of ho rfl (by rw [ents_size]; exact tab_fits hk) h
theorem find_none {tk : Nat → Tok} {m v : Nat} (hb : m.testBit v = false) : (ents tk m).toArray.toList.findIdx? (fun e => (intKind prog w).is (v : Int) e.2) = none := by
  rw [List.findIdx?_eq_none_iff]
  intro e he
  cases h : (intKind prog w).is (v : Int) e.2 with
  | false => rfl
  | true =>
    have e1 := (is_ent he).mp h
    simp only [ents, List.mem_map] at he
    obtain ⟨u, hu, rfl⟩ := he
    have e2 : ((u : Nat) : Int) = (v : Int) := e1
    have : u = v := by omega
    subst this
    have := (mem_vals.mp hu).2
    rw [hb] at this; cases this
theorem find_some {tk : Nat → Tok} {m v : Nat} (hv : v < 5) (hb : m.testBit v = true) : ∃ j, (ents tk m).toArray.toList.findIdx? (fun e => (intKind prog w).is (v : Int) e.2) = some j := by
  cases h : (ents tk m).toArray.toList.findIdx? (fun e => (intKind prog w).is (v : Int) e.2) with
  | some j => exact ⟨j, rfl⟩
  | none =>
    exfalso
    rw [List.findIdx?_eq_none_iff] at h
    have := h ((v : Int), Value.int (v : Int) (tk v)) (by simp only [ents, List.mem_map]; exact ⟨v, mem_vals.mpr ⟨hv, hb⟩, rfl⟩)
    simp [intKind, Value.isInt] at this
theorem findM {a : Addr} {o : Obj} {m v : Nat} {t : Tok} {Q : Option Nat → Shared → Prop} (ho : s.heap.get? a = some o) (hM : IsM (byT w) m o) (hv : v < 5)
    (h : ∀ r : Option Nat, r.isSome = m.testBit v → Q r s) : wpAny (model prog w) A (setFind a (.int (v : Int) t) (v : Int)) Q E s := by
  obtain ⟨hm, tk, ep, k, f, l, mv, rfl, hk, hl⟩ := hM
  unfold setFind setFindIn
  refine wpAny_bind (state_M ho hk ?_)
  dsimp only
  have h5 := vals_len hm
  rw [byScan_of (knd := intKind prog w) rfl (by rw [ents_size]; unfold scanBound; omega) (ents_elems tk m)]
  simp only [↓reduceIte]
  refine wpAny_bind (wpAny_rule ?_)
  have hsc := fun (Q' : ScanMet → Shared → Prop) => wpAny_setScan_of (prog := prog) (w := w) (A := A) (E := E) (s := s) (knd := intKind prog w) (k := (v : Int)) (x := .int (v : Int) t) (adding := false) (Q := Q') (by simp [intKind, Value.isInt]) ho rfl (by rw [ents_size]; exact tab_fits hk) (ents_elems tk m)
  rw [show (intKind prog w).hash (v : Int) = (v : Int) from hashInt_small hv] at hsc
  refine wpAny_bind (hsc _ ?_)
  cases hb : m.testBit v with
  | false => rw [find_none hb]; exact wpAny_pure (h none (by rw [hb]; rfl))
  | true =>
    obtain ⟨j, hj⟩ := find_some (prog := prog) (w := w) (tk := tk) hv hb
    rw [hj]; exact wpAny_pure (h _ (by rw [hb]; rfl))
theorem or_self {m v : Nat} (h : m.testBit v = true) : m ||| 2 ^ v = m := by
  apply Nat.eq_of_testBit_eq
  intro i
  simp only [Nat.testBit_or, Nat.testBit_two_pow]
  by_cases hi : v = i
  · subst hi; simp [h]
  · simp [hi]
theorem okMask_put {k n : Nat} (h : okMask k n = true) (h2 : ¬ ((n + 1) * 5 ≥ k * 3)) : okMask k (n + 1) = true := by
  simp only [okMask, Bool.and_eq_true, decide_eq_true_eq] at h ⊢
  exact ⟨h.1, by omega⟩
theorem storeM {a : Addr} {o : Obj} {es es' : Array (Int × Value)} {ep : Nat} {t t' : SetTable} {Q : Unit → Shared → Prop} (ho : s.heap.get? a = some o) (hd : o = { cls := .type "set", dict := none, data := .set es ep t, slots := #[] })
    (hz : es'.size ≤ 5) (h : ∀ h', Heap.SameBut a s.heap h' → h'.get? a = some { cls := .type "set", dict := none, data := .set es' (ep + 1) t', slots := #[] } → Q () { s with heap := h' }) :
    wpAny (model prog w) A (storeSet a es' t') Q E s := by
  subst hd
  refine wpAny_storeSet_of ho rfl (h _ (Heap.SameBut.update _ _ _) ?_) (by unfold sizeLine; omega)
  have := Heap.get?_update_self (Obj.putSet es' t') ho (by rfl)
  exact this
theorem relay_tab {tk : Nat → Tok} {k m f mv : Nat} {l : Bool} {wanted K : Nat} (hm : m < 32) (hs : SetTable.sizeAbove wanted - 1 = K) (hK : K ∈ [7, 15, 31]) :
    (tab k m f l mv).relaid ((ents tk m).toArray.map (·.1)) wanted = some (tab K m f l ((tab k m f l mv).movedTo K), (List.range (vals m).length).toArray) := by
  have e : (ents tk m).toArray.map (·.1) = hashes m := by simp [ents, hashes]
  unfold SetTable.relaid
  rw [e, hs]
  exact laid_tab hK hm
theorem range_items {α : Type} (l : List α) : ∀ n, n ≤ l.length → (List.range n).filterMap (fun i => l[i]?) = l.take n := by
  intro n
  induction n with
  | zero => intro _; rfl
  | succ n ih =>
    intro h
    rw [List.range_succ, List.filterMap_append, ih (by omega), List.take_add_one]
    simp [List.getElem?_eq_getElem (show n < l.length by omega)]
theorem order_same {es : Array (Int × Value)} {n : Nat} (h : es.size = n) : (List.range n).toArray.filterMap (es[·]?) = es := by
  subst h
  apply Array.toList_inj.mp
  rw [Array.toList_filterMap]
  obtain ⟨l⟩ := es
  simp only [List.size_toArray, List.getElem?_toArray]
  rw [range_items l l.length (Nat.le_refl _), List.take_length]
theorem relayAll_tab {tk : Nat → Tok} {k m f mv : Nat} {l : Bool} {wanted K : Nat} (hm : m < 32) (hs : SetTable.sizeAbove wanted - 1 = K) (hK : K ∈ [7, 15, 31]) (hfit : okMask K (vals m).length = true) :
    relayAll (tab k m f l mv) (ents tk m).toArray wanted = ((ents tk m).toArray, tab K m f l ((tab k m f l mv).movedTo K), false) := by
  unfold relayAll
  rw [relay_tab hm hs hK]
  dsimp only
  rw [order_same (ents_size tk m)]
  rw [ents_size]
  have h1 : coversAll (List.range (vals m).length).toArray (vals m).length = true := by
    simp only [coversAll]; exact List.isPerm_iff.mpr (List.Perm.refl _)
  rw [h1, tab_fits hfit]
  rfl
theorem addM {a : Addr} {o : Obj} {m v : Nat} {t : Tok} {Q : Bool → Shared → Prop} (ho : s.heap.get? a = some o) (hM : IsM (byT w) m o) (hv : v < 5)
    (h : ∀ h' o', Heap.SameBut a s.heap h' → h'.get? a = some o' → IsM (byT w) (m ||| 2 ^ v) o' → Q (!m.testBit v) { s with heap := h' }) :
    wpAny (model prog w) A (setAddHashed a (.int (v : Int) t) (v : Int)) Q E s := by
  have hM0 := hM
  obtain ⟨hm, tk, ep, k, f, l, mv, rfl, hk, hl⟩ := hM
  unfold setAddHashed setAddHashedIn
  refine wpAny_holding (wpAny_bind (state_M ho hk ?_))
  dsimp only
  have h5 := vals_len hm
  rw [byScan_of (knd := intKind prog w) rfl (by rw [ents_size]; unfold scanBound; omega) (ents_elems tk m)]
  simp only [↓reduceIte]
  unfold setAddByScan
  refine wpAny_bind (wpAny_bind (wpAny_rule ?_))
  have hsc := fun (Q' : ScanMet → Shared → Prop) => wpAny_setScan_of (prog := prog) (w := w) (A := A) (E := E) (s := s) (knd := intKind prog w) (k := (v : Int)) (x := .int (v : Int) t) (adding := true) (Q := Q') (by simp [intKind, Value.isInt]) ho rfl (by rw [ents_size]; exact tab_fits hk) (ents_elems tk m)
  rw [show (intKind prog w).hash (v : Int) = (v : Int) from hashInt_small hv] at hsc
  refine wpAny_bind (hsc _ ?_)
  cases hb : m.testBit v with
  | true =>
    obtain ⟨j, hj⟩ := find_some (prog := prog) (w := w) (tk := tk) hv hb
    rw [hj]
    refine wpAny_pure (wpAny_pure ?_)
    have := h s.heap _ (Heap.SameBut.refl a s.heap) ho (by rw [or_self hb]; exact hM0)
    rw [hb] at this; exact this
  | false =>
    rw [find_none hb]
    dsimp only
    rw [layNew_tab tk t hk hm hv hb]
    dsimp only
    have hlen := vals_len_put hm hv hb
    have hm' := put_lt hm hv
    refine wpAny_bind (wpAny_pure ?_)
    have hpl : (tab k (m ||| 2 ^ v) f l mv).plain = true := rfl
    rw [hpl]
    simp only [↓reduceIte]
    refine wpAny_bind (wpAny_pure ?_)
    simp only [↓reduceIte]
    refine wpAny_bind (storeM ho rfl (by rw [ents_size]; exact vals_len hm') fun h1 hs1 ho1 => ?_)
    simp only [Bool.not_false, Bool.true_and]
    have htf : (tab k (m ||| 2 ^ v) f l mv).tooFull = decide ((vals m).length * 5 + 5 ≥ k * 3) := by
      simp only [SetTable.tooFull, SetTable.fill, tab, List.size_toArray, hlen]
      simp; omega
    rw [htf]
    by_cases hf : (vals m).length * 5 + 5 ≥ k * 3
    · rw [if_pos (by simpa using hf)]
      have hk7 : k = 7 ∧ (vals m).length = 4 := by
        obtain ⟨hk1, hk2⟩ := mask_cases hk
        simp at hk1; omega
      have hn5 : (vals (m ||| 2 ^ v)).length = 5 := by omega
      have hrl := relayAll_tab (k := k) (f := f) (mv := mv) (l := l) (tk := fun u => if u = v then t else tk u) (K := 31) (wanted := SetTable.grown (ents (fun u => if u = v then t else tk u) (m ||| 2 ^ v)).toArray.size) hm' (by rw [ents_size, hn5]; decide) (by simp) (by rw [hn5]; decide)
      rw [hrl]
      dsimp only
      refine wpAny_bind (wpAny_pure ?_)
      refine wpAny_bind (storeM ho1 rfl (by rw [ents_size]; exact vals_len hm') fun h2 hs2 ho2 => ?_)
      refine wpAny_pure (wpAny_pure ?_)
      have := h h2 _ (hs1.trans hs2) ho2 ⟨hm', _, _, _, _, _, _, rfl, by rw [hn5]; decide, hl⟩
      rw [hb] at this; exact this
    · rw [if_neg (by simpa using hf)]
      refine wpAny_pure (wpAny_pure ?_)
      have := h h1 _ hs1 ho1 ⟨hm', _, _, _, _, _, _, rfl, by rw [hlen]; exact okMask_put hk (by omega), hl⟩
      rw [hb] at this; exact this
end
end Mine
end
section
open PySem PySem.W PyProof.Rows
namespace Mine
section
variable {prog : Program} {w : World} {A : Around} {E : Value → Shared → Prop} {s : Shared}
theorem erase_perm {α : Type} : ∀ (l : List α) (i : Nat) (h : i < l.length), (l[i] :: l.eraseIdx i).Perm l
  | x :: l, 0, _ => by simp
  | x :: l, i + 1, h => by
    have hi : i < l.length := by simpa using h
    have := erase_perm l i hi
    simp only [List.getElem_cons_succ, List.eraseIdx_cons_succ]
    exact (List.Perm.swap x l[i] _).trans (this.cons x)
theorem pick_perm {α : Type} (next : Nat → Nat) : ∀ (n : Nat) (k : Nat) (left : List α) (out : Array α), left.length = n → (pickOrder.go next n k left out).toList.Perm (out.toList ++ left)
  | 0, k, left, out, h => by
    have : left = [] := List.length_eq_zero_iff.mp h
    subst this; simp [pickOrder.go]
  | n + 1, k, left, out, h => by
    unfold pickOrder.go
    have hlt : next k % left.length < left.length := Nat.mod_lt _ (by omega)
    rw [List.getElem?_eq_getElem hlt]
    dsimp only
    refine (pick_perm next n (k + 1) _ _ (by rw [List.length_eraseIdx_of_lt hlt]; omega)).trans ?_
    rw [Array.toList_push, List.append_assoc]
    refine List.Perm.append_left _ ?_
    exact erase_perm left _ hlt
theorem setsByText_M {Q : Bool → Shared → Prop} (h : Q (byT w) s) : wpAny (model prog w) A setsByText Q E s := by
  unfold setsByText
  exact wpAny_bind (wpAny_askSetting (wpAny_pure h))
theorem walkM {a : Addr} {tk : Nat → Tok} {m ep k f : Nat} {l : Bool} {mv : Nat} {Q : Array (Int × Value) → Shared → Prop}
    (ho : s.heap.get? a = some (setO tk m ep k f l mv)) (hk : okMask k (vals m).length = true) (hl : l = true ∨ byT w = true)
    (h : ∀ es : Array (Int × Value), es.toList.Perm (ents tk m) → Q es s) : wpAny (model prog w) A (setWalk a) Q E s := by
  unfold setWalk
  refine wpAny_bind (state_M ho hk ?_)
  dsimp only
  refine wpAny_bind (setsByText_M ?_)
  cases hb : byT w with
  | true =>
    simp only [↓reduceIte]
    refine wpAny_bind (wpAny_askSetting (wpAny_pure (h _ ?_)))
    refine (pick_perm _ _ _ _ _ (by simp)).trans ?_
    simp
  | false =>
    simp only [Bool.false_eq_true, ↓reduceIte]
    have hl' : l = true := hl.resolve_right (by rw [hb]; exact Bool.false_ne_true)
    subst hl'
    show wpAny _ _ (if false = true then _ else ((pure () : Sem Unit) >>= fun _ => pure (ents tk m).toArray)) _ _ _
    rw [if_neg Bool.false_ne_true]
    exact wpAny_bind (wpAny_pure (wpAny_pure (h _ (List.Perm.refl _))))
theorem unseenM {a : Addr} {os : List Addr} {r : Option Addr} {tk : Nat → Tok} {m ep k f : Nat} {l : Bool} {mv : Nat} {Q : Array (Int × Value) → Shared → Prop}
    (ho : s.heap.get? a = some (setO tk m ep k f l mv)) (hk : okMask k (vals m).length = true) (hl : l = true ∨ byT w = true)
    (h : ∀ es : Array (Int × Value), es.toList.Perm (ents tk m) → Q es s) : wpAny (model prog w) A (setWalkUnseen a os r) Q E s := by
  unfold setWalkUnseen
  refine wpAny_bind (state_M ho hk ?_)
  dsimp only
  refine wpAny_bind (setsByText_M ?_)
  have hc : (byT w || (tab k m f l mv).led && (tab k m f l mv).plain || decide ((ents tk m).toArray.size ≤ 1)) = true := by
    rcases hl with h1 | h1
    · subst h1; simp [tab]
    · rw [h1]; simp
  rw [if_pos hc]
  exact walkM ho hk hl h
theorem walked {tk : Nat → Tok} {m : Nat} {es : Array (Int × Value)} (he : es.toList.Perm (ents tk m)) {e : Int × Value} (hm : e ∈ es.toList) : ∃ v, v < 5 ∧ m.testBit v = true ∧ e = ((v : Int), Value.int (v : Int) (tk v)) := by
  have := he.mem_iff.mp hm
  simp only [ents, List.mem_map] at this
  obtain ⟨v, hv, rfl⟩ := this
  exact ⟨v, (mem_vals.mp hv).1, (mem_vals.mp hv).2, rfl⟩
end
end Mine
end
section
open PySem PySem.W PyProof.Rows
namespace Mine
section
variable {prog : Program} {w : World} {A : Around} {E : Value → Shared → Prop} {s : Shared}
theorem IsM.type {m : Nat} {o : Obj} {a : Addr} {bt : Bool} (hM : IsM bt m o) (ho : s.heap.get? a = some o) : s.TypeIs (.ref a) "set" := by
  obtain ⟨_, tk, ep, k, f, l, mv, rfl, _⟩ := hM
  exact ⟨_, ho, rfl⟩
theorem anySetM {a : Addr} (hT : s.TypeIs (.ref a) "set") {Q : Bool → Shared → Prop} (h : Q true s) : wpAny (model prog w) A (Builtin.Frozenset.isAnySet (.ref a)) Q E s := by
  unfold Builtin.Frozenset.isAnySet
  refine wpAny_bind (wpAny_isInstance hT sub_set_self ?_)
  exact wpAny_pure h
theorem baseM {a : Addr} (hT : s.TypeIs (.ref a) "set") {Q : Value → Shared → Prop} (h : Q (.type "set") s) : wpAny (model prog w) A (Builtin.Frozenset.baseOf a) Q E s := by
  unfold Builtin.Frozenset.baseOf
  refine wpAny_bind (wpAny_isInstance hT sub_set_self ?_)
  exact wpAny_pure h
theorem vals_zero : vals 0 = [] := by decide
theorem newSetM {Q : Value → Shared → Prop}
    (h : ∀ h' o, h' = s.heap.push o → h'.get? s.heap.objs.size = some o → IsM (byT w) 0 o → o = setO (fun _ => 0) 0 0 7 0 (!byT w) 0 → Q (.ref s.heap.objs.size) { s with heap := h' }) :
    wpAny (model prog w) A (newSet (.type "set")) Q E s := by
  unfold newSet
  refine wpAny_bind (setsByText_M ?_)
  dsimp only
  simp only [newObj]
  refine wpAny_bind (wpAny_alloc (wpAny_pure ?_))
  have e : ({ cls := .type "set", dict := none, data := .set #[] 0 (.fresh 0 0 (!byT w)) } : Obj) = setO (fun _ => 0) 0 0 7 0 (!byT w) 0 := by
    simp [setO, ents, tab, vals_zero, SetTable.fresh]
  refine h _ _ rfl (Heap.get?_push_size _ rfl) ⟨by omega, fun _ => 0, 0, 7, 0, !byT w, 0, e, by rw [vals_zero]; rfl, ?_⟩ e
  cases byT w <;> simp
theorem epochM {a : Addr} {o : Obj} {m : Nat} {Q : Nat → Shared → Prop} (ho : s.heap.get? a = some o) (hM : IsM (byT w) m o)
    (h : ∀ tk ep k f l mv, o = setO tk m ep k f l mv → Q ep s) : wpAny (model prog w) A (setEpoch a) Q E s := by
  obtain ⟨_, tk, ep, k, f, l, mv, rfl, hk, _⟩ := hM
  unfold setEpoch
  exact wpAny_bind (state_M ho hk (wpAny_pure (h _ _ _ _ _ _ rfl)))
theorem sizeM {a : Addr} {o : Obj} {m : Nat} {Q : Nat → Shared → Prop} (ho : s.heap.get? a = some o) (hM : IsM (byT w) m o)
    (h : Q (vals m).length s) : wpAny (model prog w) A (Builtin.Frozenset.sizeOf a) Q E s := by
  obtain ⟨_, tk, ep, k, f, l, mv, rfl, hk, _⟩ := hM
  unfold Builtin.Frozenset.sizeOf setEntries
  refine wpAny_bind (wpAny_bind (state_M ho hk (wpAny_pure (wpAny_pure ?_))))
  rw [ents_size]; exact h
theorem unchangedM {id : String} {a : Addr} {o : Obj} {m was : Nat} {Q : Unit → Shared → Prop} (ho : s.heap.get? a = some o) (hM : IsM (byT w) m o)
    (hw : ∀ tk ep k f l mv, o = setO tk m ep k f l mv → ep = was) (h : Q () s) : wpAny (model prog w) A (Builtin.Frozenset.unchanged id a was) Q E s := by
  unfold Builtin.Frozenset.unchanged
  refine wpAny_bind (epochM ho hM fun tk ep k f l mv e => ?_)
  rw [hw _ _ _ _ _ _ e]
  simp only [bne_self_eq_false, Bool.false_eq_true, ↓reduceIte]
  exact wpAny_pure h
theorem walkedM {a : Addr} {o : Obj} {m : Nat} {os : List Addr} {r : Option Addr} {Q : Array (Int × Value) → Shared → Prop} (ho : s.heap.get? a = some o) (hM : IsM (byT w) m o)
    (h : ∀ tk (es : Array (Int × Value)), es.toList.Perm (ents tk m) → Q es s) : wpAny (model prog w) A (setWalkUnseen a os r) Q E s := by
  obtain ⟨_, tk, ep, k, f, l, mv, rfl, hk, hl⟩ := hM
  exact unseenM ho hk hl fun es he => h tk es he
theorem testBit_big {m v : Nat} (hm : m < 32) (hv : 5 ≤ v) : m.testBit v = false :=
  Nat.testBit_lt_two_pow (Nat.lt_of_lt_of_le hm (by
    calc 32 = 2 ^ 5 := rfl
      _ ≤ 2 ^ v := Nat.pow_le_pow_right (by omega) hv))
theorem walked_any {tk : Nat → Tok} {m : Nat} (hm : m < 32) {es : List (Int × Value)} (he : es.Perm (ents tk m)) (v : Nat) : es.any (fun e => e.1 == (v : Int)) = m.testBit v := by
  rw [Bool.eq_iff_iff, List.any_eq_true]
  constructor
  · rintro ⟨e, hm1, hq⟩
    have := he.mem_iff.mp hm1
    simp only [ents, List.mem_map] at this
    obtain ⟨u, hu, rfl⟩ := this
    have : u = v := by simp only [beq_iff_eq] at hq; omega
    subst this
    exact (mem_vals.mp hu).2
  · intro hb
    have h5 : v < 5 := by
      by_cases h : v < 5
      · exact h
      · rw [testBit_big hm (by omega)] at hb; cases hb
    refine ⟨((v : Int), Value.int (v : Int) (tk v)), he.mem_iff.mpr ?_, by simp⟩
    simp only [ents, List.mem_map]
    exact ⟨v, mem_vals.mpr ⟨h5, hb⟩, rfl⟩
theorem andLoop {id : String} {ask walk r : Addr} {oa ow : Obj} {ma mw was : Nat} {tk : Nat → Tok} {es : Array (Int × Value)} (hes : es.toList.Perm (ents tk mw)) {or : Obj}
    (ha : s.heap.get? ask = some oa) (hMa : IsM (byT w) ma oa) (hw : s.heap.get? walk = some ow) (hMw : IsM (byT w) mw ow) (hwas : ∀ tk ep k f l mv, ow = setO tk mw ep k f l mv → ep = was)
    (hra : ask ≠ r) (hrw : walk ≠ r) (hr : s.heap.get? r = some or) (hMr : IsM (byT w) 0 or) {Q : PUnit → Shared → Prop}
    (h : ∀ h' o', Heap.SameBut r s.heap h' → h'.get? r = some o' → IsM (byT w) (ma &&& mw) o' → Q ⟨⟩ { s with heap := h' }) :
    wpAny (model prog w) A (forIn es PUnit.unit fun (x : Int × Value) (_ : PUnit) => (do
          holding [x.snd] do
              let __do_lift ← setFind ask x.snd x.fst
              if __do_lift.isSome = true then do
                  let _ ← setAddHashed r x.snd x.fst
                  pure ()
                else pure ()
          Builtin.Frozenset.unchanged id walk was
          pure (ForInStep.yield PUnit.unit) : Sem (ForInStep PUnit))) Q E s := by
  rw [← Array.forIn_toList]
  refine wpAny_forIn_list _ (fun l _ s' => ∃ pre h' o' acc, es.toList = pre ++ l ∧ s' = { s with heap := h' } ∧ Heap.SameBut r s.heap h' ∧ h'.get? r = some o' ∧ IsM (byT w) acc o' ∧
    ∀ v : Nat, acc.testBit v = (ma.testBit v && pre.any (fun e => e.1 == (v : Int)))) _ ?_ ?_ _ _ ?_
  · rintro x rest _ s' ⟨pre, h', o', acc, hp, rfl, hsb, hr', hM', hacc⟩
    obtain ⟨v, hv, hb, rfl⟩ := walked hes (e := x) (by rw [hp]; simp)
    dsimp only
    have ha' : h'.get? ask = some oa := (hsb.2 ask hra).trans ha
    have hw' : h'.get? walk = some ow := (hsb.2 walk hrw).trans hw
    have step : ∀ acc', (∀ u : Nat, acc'.testBit u = (acc.testBit u || (ma.testBit u && decide (u = v)))) → ∀ h'' o'', Heap.SameBut r h' h'' → h''.get? r = some o'' → IsM (byT w) acc' o'' →
        wpAny (model prog w) A (Builtin.Frozenset.unchanged id walk was) (fun _ s' => wpAny (model prog w) A (pure (ForInStep.yield PUnit.unit)) (fun r_1 s' => match r_1 with
          | ForInStep.yield b' => ∃ pre h' o' acc, es.toList = pre ++ rest ∧ s' = { s with heap := h' } ∧ Heap.SameBut r s.heap h' ∧ h'.get? r = some o' ∧ IsM (byT w) acc o' ∧
            ∀ v : Nat, acc.testBit v = (ma.testBit v && pre.any (fun e => e.1 == (v : Int)))
          | ForInStep.done b' => Q b' s') E s') E { s with heap := h'' } := by
      intro acc' hacc' h'' o'' hsb' hr'' hM''
      have hw'' : h''.get? walk = some ow := (hsb'.2 walk hrw).trans hw'
      refine unchangedM (s := { s with heap := h'' }) hw'' hMw hwas ?_
      refine wpAny_pure ⟨pre ++ [((v : Int), Value.int (v : Int) (tk v))], h'', o'', acc', by rw [hp]; simp, rfl, hsb.trans hsb', hr'', hM'', fun u => ?_⟩
      rw [hacc' u, hacc u, List.any_append]
      simp only [List.any_cons, List.any_nil, Bool.or_false]
      have : (((v : Nat) : Int) == ((u : Nat) : Int)) = decide (u = v) := by
        rw [Bool.eq_iff_iff]; simp only [beq_iff_eq, decide_eq_true_eq]; omega
      rw [this]
      cases ma.testBit u <;> simp
    refine wpAny_bind (wpAny_holding ?_)
    refine wpAny_bind (findM ha' hMa hv fun q hq => ?_)
    by_cases hq1 : q.isSome = true
    · rw [if_pos hq1]
      have hmav : ma.testBit v = true := by rw [← hq]; exact hq1
      refine wpAny_bind (addM hr' hM' hv fun h'' o'' hsb' hr'' hM'' => wpAny_pure ?_)
      refine wpAny_bind ?_
      refine step _ (fun u => ?_) h'' o'' hsb' hr'' hM''
      rw [Nat.testBit_or, Nat.testBit_two_pow]
      by_cases huv : u = v
      · subst huv; simp [hmav]
      · have : ¬ v = u := fun e => huv e.symm
        simp [huv, this]
    · rw [if_neg hq1]
      have hmav : ma.testBit v = false := by rw [← hq]; simpa using hq1
      refine wpAny_pure (wpAny_bind ?_)
      refine step acc (fun u => ?_) h' o' (Heap.SameBut.refl _ _) hr' hM'
      by_cases huv : u = v
      · subst huv; simp [hmav]
      · simp [huv]
  · rintro _ s' ⟨pre, h', o', acc, hp, rfl, hsb, hr', hM', hacc⟩
    refine h h' o' hsb hr' ?_
    have : acc = ma &&& mw := by
      apply Nat.eq_of_testBit_eq
      intro i
      rw [hacc i, Nat.testBit_and]
      rw [List.append_nil] at hp
      rw [← hp, walked_any hMw.1 hes i]
    rw [← this]; exact hM'
  · exact ⟨[], s.heap, or, 0, by simp, by cases s; rfl, Heap.SameBut.refl _ _, hr, hMr, fun v => by simp⟩
theorem interM {id : String} {a b : Addr} {oa ob : Obj} {m n : Nat} (hab : a ≠ b) (ha : s.heap.get? a = some oa) (hMa : IsM (byT w) m oa) (hb : s.heap.get? b = some ob) (hMb : IsM (byT w) n ob) {Q : Value → Shared → Prop}
    (h : ∀ h' o', (∀ c o, s.heap.get? c = some o → h'.get? c = some o) → h'.get? s.heap.objs.size = some o' → IsM (byT w) (m &&& n) o' → Q (.ref s.heap.objs.size) { s with heap := h' }) :
    wpAny (model prog w) A (Builtin.Frozenset.intersection id a (.ref b)) Q E s := by
  have hTa := hMa.type ha
  have hTb := hMb.type hb
  unfold Builtin.Frozenset.intersection
  have hne : (Value.ref b == Value.ref a) = false := by
    rw [beq_eq_false_iff_ne]; intro e; cases e; exact hab rfl
  rw [hne]
  simp only [Bool.false_eq_true, ↓reduceIte]
  refine wpAny_bind (baseM hTa ?_)
  refine wpAny_bind (newSetM fun h1 o1 e1 ho1 hM1 hE1 => ?_)
  have la : a < s.heap.objs.size := Heap.lt_size ha
  have lb : b < s.heap.objs.size := Heap.lt_size hb
  have ha1 : h1.get? a = some oa := by rw [e1]; exact Heap.get?_push_of_some _ ha
  have hb1 : h1.get? b = some ob := by rw [e1]; exact Heap.get?_push_of_some _ hb
  refine wpAny_bind (wpAny_pure ?_)
  refine wpAny_bind (wpAny_holding ?_)
  refine wpAny_bind (anySetM (hMb.type hb1) ?_)
  simp only [↓reduceIte]
  refine wpAny_bind (wpAny_pure ?_)
  refine wpAny_bind (sizeM hb1 hMb ?_)
  refine wpAny_bind (sizeM ha1 hMa ?_)
  by_cases hc : (vals n).length > (vals m).length
  · rw [if_pos hc]
    dsimp only
    refine wpAny_bind (epochM ha1 hMa fun tk ep k f l mv e => ?_)
    refine wpAny_bind (walkedM ha1 hMa fun tk' es hes => ?_)
    refine wpAny_bind (andLoop (s := { s with heap := h1 }) hes hb1 hMb ha1 hMa (fun tk2 ep2 k2 f2 l2 mv2 e2 => ?_) (Nat.ne_of_lt lb) (Nat.ne_of_lt la) ho1 hM1 fun h2 o2 hsb2 ho2 hM2 => ?_)
    · rw [e] at e2; simp only [setO, Obj.mk.injEq, Data.set.injEq] at e2; omega
    · refine wpAny_pure (wpAny_pure (h h2 o2 (fun c o hc => ?_) ho2 (by rw [Nat.and_comm]; exact hM2)))
      have := hsb2.2 c (Nat.ne_of_lt (Heap.lt_size hc))
      rw [this]
      show h1.get? c = some o
      rw [e1]; exact Heap.get?_push_of_some _ hc
  · rw [if_neg hc]
    dsimp only
    refine wpAny_bind (epochM hb1 hMb fun tk ep k f l mv e => ?_)
    refine wpAny_bind (walkedM hb1 hMb fun tk' es hes => ?_)
    refine wpAny_bind (andLoop (s := { s with heap := h1 }) hes ha1 hMa hb1 hMb (fun tk2 ep2 k2 f2 l2 mv2 e2 => ?_) (Nat.ne_of_lt la) (Nat.ne_of_lt lb) ho1 hM1 fun h2 o2 hsb2 ho2 hM2 => ?_)
    · rw [e] at e2; simp only [setO, Obj.mk.injEq, Data.set.injEq] at e2; omega
    · refine wpAny_pure (wpAny_pure (h h2 o2 (fun c o hc => ?_) ho2 hM2))
      have := hsb2.2 c (Nat.ne_of_lt (Heap.lt_size hc))
      rw [this]
      show h1.get? c = some o
      rw [e1]; exact Heap.get?_push_of_some _ hc
end
end Mine
end
section
open PySem PySem.W PyProof.Rows
namespace Mine
section
variable {prog : Program} {w : World} {A : Around} {E : Value → Shared → Prop} {s : Shared}
theorem vals_nil {m : Nat} (hm : m < 32) : (vals m).length = 0 ↔ m = 0 := by
  have : ∀ m ∈ List.range 32, ((vals m).length = 0 ↔ m = 0) := by decide +kernel
  exact this m (List.mem_range.mpr hm)
theorem roomM {a : Addr} {o : Obj} {m more : Nat} (h1 : 1 ≤ more) (h5 : more ≤ 5) {Q : Unit → Shared → Prop} (ho : s.heap.get? a = some o) (hM : IsM (byT w) m o)
    (h : ∀ h' o', Heap.SameBut a s.heap h' → h'.get? a = some o' → IsM (byT w) m o' → (∀ tk ep k f l mv, o' = setO tk m ep k f l mv → okMask k ((vals m).length + more) = true) → Q () { s with heap := h' }) :
    wpAny (model prog w) A (setRoomFor a more) Q E s := by
  have hM0 := hM
  obtain ⟨hm, tk, ep, k, f, l, mv, rfl, hk, hl⟩ := hM
  obtain ⟨hk1, hk2⟩ := mask_cases hk
  have hv5 := vals_len hm
  unfold setRoomFor
  refine wpAny_bind (state_M ho hk ?_)
  dsimp only
  have hfill : (tab k m f l mv).fill = (vals m).length := by simp [SetTable.fill, tab]
  by_cases hc : ((vals m).length + more) * 5 ≥ k * 3
  · have hr : (tab k m f l mv).roomFor more = some (((vals m).length + more) * 2) := by
      unfold SetTable.roomFor
      rw [hfill]
      show (if ((vals m).length + more) * 5 ≥ k * 3 then some (((vals m).toArray.size + more) * 2) else none) = _
      rw [if_pos hc, List.size_toArray]
    rw [hr]
    dsimp only
    unfold setRelay
    refine wpAny_bind (state_M ho hk ?_)
    dsimp only
    obtain ⟨K, hK, hKm, hKo, hKp⟩ : ∃ K, SetTable.sizeAbove (((vals m).length + more) * 2) - 1 = K ∧ K ∈ [7, 15, 31] ∧ okMask K (vals m).length = true ∧ okMask K ((vals m).length + more) = true := by
      have hb : (vals m).length + more ≤ 10 := by omega
      have hb2 : 5 ≤ (vals m).length + more := by simp at hk1; omega
      generalize (vals m).length = n at *
      have : ∀ n ∈ List.range 6, ∀ more ∈ List.range 6, 5 ≤ n + more → SetTable.sizeAbove ((n + more) * 2) - 1 ∈ [7, 15, 31] ∧ okMask (SetTable.sizeAbove ((n + more) * 2) - 1) n = true ∧ okMask (SetTable.sizeAbove ((n + more) * 2) - 1) (n + more) = true := by decide +kernel
      obtain ⟨x, y, z⟩ := this n (by simp; omega) more (by simp; omega) hb2
      exact ⟨_, rfl, x, y, z⟩
    have hsz : ¬ SetTable.sizeAbove (((vals m).length + more) * 2) > sizeLine := by
      have : SetTable.sizeAbove (((vals m).length + more) * 2) ≤ 32 := by simp at hKm; omega
      unfold sizeLine; omega
    rw [if_neg hsz]
    rw [relay_tab hm hK hKm]
    have : ∀ {Q' : Array (Int × Value) × SetTable → Shared → Prop}, Q' ((ents tk m).toArray, tab K m f l ((tab k m f l mv).movedTo K)) s →
        wpAny (model prog w) A (do
          let some (t, order) := some (tab K m f l ((tab k m f l mv).movedTo K), (List.range (vals m).length).toArray) | unsupported "internal:set-table-without-room"
          let es' := order.filterMap ((ents tk m).toArray[·]?)
          if es'.size != (ents tk m).toArray.size then unsupported "internal:set-table-lost-an-element"
          pure (es', t)) Q' E s := by
      intro Q' hQ
      dsimp only
      rw [order_same (ents_size tk m)]
      simp only [bne_self_eq_false, Bool.false_eq_true, ↓reduceIte]
      exact wpAny_pure hQ
    refine wpAny_bind (this ?_)
    dsimp only
    refine storeM ho rfl (by rw [ents_size]; exact hv5) fun h' hsb hg => ?_
    refine h h' _ hsb hg ⟨hm, _, _, _, _, _, _, rfl, hKo, hl⟩ fun tk2 ep2 k2 f2 l2 mv2 e2 => ?_
    simp only [setO, tab, Obj.mk.injEq, Data.set.injEq, SetTable.mk.injEq] at e2
    rw [← e2.2.2.1.2.2.1]; exact hKp
  · have hr : (tab k m f l mv).roomFor more = none := by
      unfold SetTable.roomFor
      rw [hfill]
      show (if ((vals m).length + more) * 5 ≥ k * 3 then some (((vals m).toArray.size + more) * 2) else none) = _
      rw [if_neg hc]
    rw [hr]
    dsimp only
    refine wpAny_pure ?_
    refine h s.heap _ (Heap.SameBut.refl _ _) ho hM0 fun tk2 ep2 k2 f2 l2 mv2 e2 => ?_
    simp only [setO, tab, Obj.mk.injEq, Data.set.injEq, SetTable.mk.injEq] at e2
    rw [← e2.2.2.1.2.2.1]
    simp only [okMask, Bool.and_eq_true, decide_eq_true_eq] at hk ⊢
    exact ⟨hk.1, by omega⟩
end
end Mine
end
section
open PySem PySem.W PyProof.Rows
namespace Mine
section
variable {prog : Program} {w : World} {A : Around} {E : Value → Shared → Prop} {s : Shared}
theorem mergeM {a b : Addr} {each : Sem Unit} {oa ob : Obj} {m n : Nat} (hab : a ≠ b) (ha : s.heap.get? a = some oa) (hMa : IsM (byT w) m oa) (hb : s.heap.get? b = some ob) (hMb : IsM (byT w) n ob)
    (heach : ∀ (s' : Shared) (Q : Unit → Shared → Prop), s'.heap.get? b = some ob → Q () s' → wpAny (model prog w) A each Q E s') {Q : Unit → Shared → Prop}
    (h : ∀ h' o', Heap.SameBut a s.heap h' → h'.get? a = some o' → IsM (byT w) (m ||| n) o' → Q () { s with heap := h' }) :
    wpAny (model prog w) A (setMerge a b each) Q E s := by
  have hMb0 := hMb
  obtain ⟨hn, tkb, epb, kb, fb, lb, mvb, hob, hkb, hlb⟩ := hMb
  unfold setMerge
  have hne : (a == b) = false := by rw [beq_eq_false_iff_ne]; exact hab
  rw [hne]
  simp only [Bool.false_eq_true, ↓reduceIte]
  refine wpAny_bind (state_M (hob ▸ hb) hkb ?_)
  dsimp only
  have hn5 := vals_len hn
  by_cases hem : (ents tkb n).toArray.isEmpty = true
  · rw [if_pos hem]
    have hn0 : n = 0 := by
      rw [Array.isEmpty_iff_size_eq_zero, ents_size] at hem
      exact (vals_nil hn).mp hem
    subst hn0
    refine wpAny_pure ?_
    exact h s.heap oa (Heap.SameBut.refl _ _) ha (by rw [Nat.or_zero]; exact hMa)
  · rw [if_neg hem]
    have hn1 : 1 ≤ (vals n).length := by
      rw [Array.isEmpty_iff_size_eq_zero, ents_size] at hem; omega
    rw [ents_size]
    refine wpAny_bind (roomM hn1 hn5 ha hMa fun h1 o1 hsb1 ho1 hM1 hroom => ?_)
    have hM10 := hM1
    obtain ⟨hm, tka, epa, ka, fa, la, mva, hoa, hka, hla⟩ := hM1
    have hb1 : h1.get? b = some ob := (hsb1.2 b (Ne.symm hab)).trans hb
    subst hoa
    refine wpAny_bind (state_M ho1 hka ?_)
    dsimp only
    have hroad : (tab ka m fa la mva).road (tab kb n fb lb mvb) = if (vals m).length ≠ 0 then .oneByOne else if ka = kb then .slotForSlot else .clean := by
      unfold SetTable.road
      have hfill : (tab ka m fa la mva).fill = (vals m).length := by simp [SetTable.fill, tab]
      rw [hfill]
      by_cases h0 : (vals m).length ≠ 0
      · simp [h0]
      · simp only [tab]; simp at h0; simp [h0]
    rw [hroad]
    by_cases h0 : (vals m).length ≠ 0
    · rw [if_pos h0]
      dsimp only
      refine wpAny_bind (walkedM (s := { s with heap := h1 }) hb1 hMb0 fun tk es hes => ?_)
      rw [← Array.forIn_toList]
      refine wpAny_bind (wpAny_forIn_list _ (fun l _ s' => ∃ pre h' o' acc, es.toList = pre ++ l ∧ s' = { s with heap := h' } ∧ Heap.SameBut a s.heap h' ∧ h'.get? a = some o' ∧ IsM (byT w) acc o' ∧
        ∀ v : Nat, acc.testBit v = (m.testBit v || pre.any (fun e => e.1 == (v : Int)))) _ ?_ ?_ _ _ ?_)
      · rintro x rest _ s' ⟨pre, h', o', acc, hp, rfl, hsb, ha', hM', hacc⟩
        obtain ⟨v, hv, hbv, rfl⟩ := walked hes (e := x) (by rw [hp]; simp)
        dsimp only
        refine wpAny_bind (wpAny_holding (addM ha' hM' hv fun h'' o'' hsb' ha'' hM'' => ?_))
        have hb'' : h''.get? b = some ob := (hsb'.2 b (Ne.symm hab)).trans ((hsb.2 b (Ne.symm hab)).trans hb)
        refine wpAny_bind (heach _ _ hb'' ?_)
        subst hob
        refine wpAny_bind (state_M hb'' hkb ?_)
        dsimp only
        simp only [bne_self_eq_false, Bool.false_eq_true, ↓reduceIte]
        refine wpAny_pure ⟨pre ++ [((v : Int), Value.int (v : Int) (tk v))], h'', o'', _, by rw [hp]; simp, rfl, hsb.trans hsb', ha'', hM'', fun u => ?_⟩
        rw [Nat.testBit_or, Nat.testBit_two_pow, hacc u, List.any_append]
        simp only [List.any_cons, List.any_nil, Bool.or_false]
        have : (((v : Nat) : Int) == ((u : Nat) : Int)) = decide (v = u) := by
          rw [Bool.eq_iff_iff]; simp only [beq_iff_eq, decide_eq_true_eq]; omega
        rw [this, Bool.or_assoc]
      · rintro _ s' ⟨pre, h', o', acc, hp, rfl, hsb, ha', hM', hacc⟩
        refine wpAny_pure (h h' o' hsb ha' ?_)
        have : acc = m ||| n := by
          apply Nat.eq_of_testBit_eq
          intro i
          rw [hacc i, Nat.testBit_or]
          rw [List.append_nil] at hp
          rw [← hp, walked_any hn hes i]
        rw [← this]; exact hM'
      · exact ⟨[], h1, _, m, by simp, rfl, hsb1, ho1, hM10, fun v => by simp⟩
    · rw [if_neg h0]
      have hm0 : m = 0 := (vals_nil hm).mp (by omega)
      subst hm0
      have hzero : 0 ||| n = n := Nat.zero_or n
      rw [hzero] at h
      by_cases hkk : ka = kb
      · rw [if_pos hkk]
        dsimp only
        refine storeM ho1 rfl (by rw [ents_size]; exact hn5) fun h2 hsb2 ho2 => ?_
        refine h h2 _ (hsb1.trans hsb2) ho2 ⟨hn, tkb, epa + 1, kb, fa, la && lb, mva, rfl, hkb, ?_⟩
        rcases hla with q | q
        · rcases hlb with q' | q'
          · left; rw [q, q']; rfl
          · right; exact q'
        · right; exact q
      · rw [if_neg hkk]
        dsimp only
        have hka' := (mask_cases hka).1
        have e : (ents tkb n).toArray.map (·.1) = hashes n := by simp [ents, hashes]
        rw [e]
        have hpl : ((tab ka 0 fa la mva).plain && (tab kb n fb lb mvb).plain) = true := rfl
        rw [hpl]
        have hlaid : SetTable.laid (tab ka 0 fa la mva).mask (tab ka 0 fa la mva).finger (tab ka 0 fa la mva).moves ((tab ka 0 fa la mva).led && (tab kb n fb lb mvb).led) true (hashes n) = some (tab ka n fa (la && lb) mva, (List.range (vals n).length).toArray) := laid_tab hka' hn
        rw [hlaid]
        have : ∀ {Q' : Array (Int × Value) × SetTable → Shared → Prop}, Q' ((ents tkb n).toArray, tab ka n fa (la && lb) mva) { s with heap := h1 } →
            wpAny (model prog w) A (do
              let some (t, order) := some (tab ka n fa (la && lb) mva, (List.range (vals n).length).toArray) | unsupported "internal:set-table-without-room"
              let es' := order.filterMap ((ents tkb n).toArray[·]?)
              if es'.size != (ents tkb n).toArray.size then unsupported "internal:set-table-lost-an-element"
              pure (es', t)) Q' E { s with heap := h1 } := by
          intro Q' hQ
          dsimp only
          rw [order_same (ents_size tkb n)]
          simp only [bne_self_eq_false, Bool.false_eq_true, ↓reduceIte]
          exact wpAny_pure hQ
        refine wpAny_bind (this ?_)
        dsimp only
        refine storeM ho1 rfl (by rw [ents_size]; exact hn5) fun h2 hsb2 ho2 => ?_
        refine h h2 _ (hsb1.trans hsb2) ho2 ⟨hn, tkb, epa + 1, ka, fa, la && lb, mva, rfl, ?_, ?_⟩
        · have := hroom tka epa ka fa la mva rfl
          rwa [show (vals 0).length = 0 from rfl, Nat.zero_add] at this
        · rcases hla with q | q
          · rcases hlb with q' | q'
            · left; rw [q, q']; rfl
            · right; exact q'
          · right; exact q
end
end Mine
end
section
open PySem PySem.W PyProof.Rows
namespace Mine
section
variable {prog : Program} {w : World} {A : Around} {E : Value → Shared → Prop} {s : Shared}
theorem copyM {a : Addr} {oa : Obj} {m : Nat} (ha : s.heap.get? a = some oa) (hMa : IsM (byT w) m oa) {Q : Value → Shared → Prop}
    (h : ∀ h' o', (∀ c o, s.heap.get? c = some o → h'.get? c = some o) → h'.get? s.heap.objs.size = some o' → IsM (byT w) m o' → Q (.ref s.heap.objs.size) { s with heap := h' }) :
    wpAny (model prog w) A (Builtin.Frozenset.copyOf a) Q E s := by
  unfold Builtin.Frozenset.copyOf
  refine wpAny_bind (baseM (hMa.type ha) ?_)
  refine wpAny_bind (newSetM fun h1 o1 e1 ho1 hM1 hE1 => ?_)
  have la : a < s.heap.objs.size := Heap.lt_size ha
  have ha1 : h1.get? a = some oa := by rw [e1]; exact Heap.get?_push_of_some _ ha
  refine wpAny_bind (wpAny_pure ?_)
  refine wpAny_bind (mergeM (Ne.symm (Nat.ne_of_lt la)) ho1 hM1 ha1 hMa (fun s' Q' _ hq => wpAny_pure hq) fun h2 o2 hsb2 ho2 hM2 => ?_)
  rw [Nat.zero_or] at hM2
  refine wpAny_pure (h h2 o2 (fun c o hc => ?_) ho2 hM2)
  rw [hsb2.2 c (Nat.ne_of_lt (Heap.lt_size hc))]
  show h1.get? c = some o
  rw [e1]; exact Heap.get?_push_of_some _ hc
theorem interM' {id : String} {a b : Addr} {oa ob : Obj} {m n : Nat} (ha : s.heap.get? a = some oa) (hMa : IsM (byT w) m oa) (hb : s.heap.get? b = some ob) (hMb : IsM (byT w) n ob) (hmn : a = b → m = n) {Q : Value → Shared → Prop}
    (h : ∀ h' o', (∀ c o, s.heap.get? c = some o → h'.get? c = some o) → h'.get? s.heap.objs.size = some o' → IsM (byT w) (m &&& n) o' → Q (.ref s.heap.objs.size) { s with heap := h' }) :
    wpAny (model prog w) A (Builtin.Frozenset.intersection id a (.ref b)) Q E s := by
  by_cases hab : a = b
  · have := hmn hab
    subst this
    subst hab
    rw [Nat.and_self] at h
    unfold Builtin.Frozenset.intersection
    rw [beq_self_eq_true, if_pos rfl]
    exact copyM ha hMa h
  · exact interM hab ha hMa hb hMb h
noncomputable def unionOf (id : String) (l : Addr) (r : Value) : Sem Value := do
  let result ← Builtin.Frozenset.copyOf l
  if r != .ref l then holding [result] (Builtin.Frozenset.updateFrom id (← Builtin.Frozenset.addrOf result) r)
  return result
theorem unionM {id : String} {a b : Addr} {oa ob : Obj} {m n : Nat} (ha : s.heap.get? a = some oa) (hMa : IsM (byT w) m oa) (hb : s.heap.get? b = some ob) (hMb : IsM (byT w) n ob) (hmn : a = b → m = n) {Q : Value → Shared → Prop}
    (h : ∀ h' o', (∀ c o, s.heap.get? c = some o → h'.get? c = some o) → h'.get? s.heap.objs.size = some o' → IsM (byT w) (m ||| n) o' → Q (.ref s.heap.objs.size) { s with heap := h' }) :
    wpAny (model prog w) A (unionOf id a (.ref b)) Q E s := by
  unfold unionOf
  refine wpAny_bind (copyM ha hMa fun h1 o1 hk1 ho1 hM1 => ?_)
  by_cases hab : a = b
  · have := hmn hab
    subst this
    subst hab
    rw [Nat.or_self] at h
    simp only [bne_self_eq_false, Bool.false_eq_true, ↓reduceIte]
    exact wpAny_pure (h h1 o1 hk1 ho1 hM1)
  · have hne : (Value.ref b != Value.ref a) = true := by
      rw [bne_iff_ne]; intro e; cases e; exact hab rfl
    rw [if_pos hne]
    refine wpAny_bind (wpAny_pure (wpAny_bind ?_))
    refine wpAny_holding ?_
    unfold Builtin.Frozenset.updateFrom
    have hb1 := hk1 b ob hb
    refine wpAny_bind (anySetM (hMb.type hb1) ?_)
    simp only [↓reduceIte]
    refine wpAny_bind (wpAny_pure ?_)
    have lb : b < s.heap.objs.size := Heap.lt_size hb
    unfold Builtin.Frozenset.merge
    refine wpAny_bind (epochM hb1 hMb fun tk ep k f l mv e => ?_)
    refine mergeM (Ne.symm (Nat.ne_of_lt lb)) ho1 hM1 hb1 hMb (fun s' Q' hg hq => unchangedM hg hMb (fun tk2 ep2 k2 f2 l2 mv2 e2 => ?_) hq) fun h2 o2 hsb2 ho2 hM2 => ?_
    · rw [e] at e2; simp only [setO, Obj.mk.injEq, Data.set.injEq] at e2; omega
    · refine wpAny_pure (h h2 o2 (fun c o hc => ?_) ho2 hM2)
      rw [hsb2.2 c (Nat.ne_of_lt (Heap.lt_size hc))]
      exact hk1 c o hc
end
namespace F
theorem entry_set_and : entryFor table "set.__and__" = some Builtin.«frozenset.__and__» :=
  entryFor_alias (id' := "frozenset.__and__") (by kernel_rfl) (by first | rfl | decide +kernel | (unfold String.splitOn; simp +decide [String.splitOnAux])) (by decide +kernel) (by kernel_rfl)
theorem entry_set_or : entryFor table "set.__or__" = some Builtin.«frozenset.__or__» :=
  entryFor_alias (id' := "frozenset.__or__") (by kernel_rfl) (by first | rfl | decide +kernel | (unfold String.splitOn; simp +decide [String.splitOnAux])) (by decide +kernel) (by kernel_rfl)
theorem entry_set_ne : entryFor table "set.__ne__" = some Builtin.«frozenset.__ne__» :=
  entryFor_alias (id' := "frozenset.__ne__") (by kernel_rfl) (by first | rfl | decide +kernel | (unfold String.splitOn; simp +decide [String.splitOnAux])) (by decide +kernel) (by kernel_rfl)
end F
theorem and_eq : Builtin.«frozenset.__and__» = fun args => (do
  let (self, other) ← Builtin.Frozenset.slot1 "__and__" args
  if !(← Builtin.Frozenset.isAnySet self <&&> Builtin.Frozenset.isAnySet other) then rule s!"frozenset.__and__.declined"; return ← ret .notImplemented
  ret (← Builtin.Frozenset.intersection s!"frozenset.__and__" (← Builtin.Frozenset.addrOf self) other)) := rfl
theorem or_eq : Builtin.«frozenset.__or__» = fun args => (do
  let (self, other) ← Builtin.Frozenset.slot1 "__or__" args
  if !(← Builtin.Frozenset.isAnySet self <&&> Builtin.Frozenset.isAnySet other) then rule s!"frozenset.__or__.declined"; return ← ret .notImplemented
  ret (← unionOf s!"frozenset.__or__" (← Builtin.Frozenset.addrOf self) other)) := rfl
end Mine
end
section
open PySem PySem.W PyProof.Rows
namespace Mine
theorem sub_set_frozen : isSubtype (.type "set") (.type "frozenset") = pure false := by rw [isSubtype_type]; kernel_rfl
section
variable {prog : Program} {w : World} {A : Around} {E : Value → Shared → Prop} {s : Shared}
theorem slot1M {name : String} {x y : Value} {Q : Value × Value → Shared → Prop} (h : Q (x, y) s) : wpAny (model prog w) A (Builtin.Frozenset.slot1 name ⟨[x, y], []⟩) Q E s := wpAny_pure h
theorem opAnd {a b : Addr} {oa ob : Obj} {m n : Nat} (ha : s.heap.get? a = some oa) (hMa : IsM (byT w) m oa) (hb : s.heap.get? b = some ob) (hMb : IsM (byT w) n ob) (hmn : a = b → m = n) {Q : Value → Shared → Prop}
    (h : ∀ h' o', (∀ c o, s.heap.get? c = some o → h'.get? c = some o) → h'.get? s.heap.objs.size = some o' → IsM (byT w) (m &&& n) o' → Q (.ref s.heap.objs.size) { s with heap := h' }) :
    wpAny (model prog w) A (binaryOp .BitAnd (.ref a) (.ref b)) Q E s := by
  have hTa := hMa.type ha
  have hTb := hMb.type hb
  refine wpAny_binaryOp_same (op := .BitAnd) hTa hTb PySem.F.fills_set_and PySem.F.slot_set_and (wpAny_call_entry PySem.F.slot_set_and hTa F.entry_set_and ?_ (PySem.F.args_set_and_2 _ _))
  rw [and_eq]
  refine wpAny_bind (slot1M ?_)
  dsimp only
  refine wpAny_bind (wpAny_bind (anySetM hTa ?_))
  refine anySetM hTb ?_
  simp only [Bool.not_true, Bool.false_eq_true, ↓reduceIte]
  refine wpAny_bind (wpAny_pure ?_)
  refine wpAny_bind (interM' ha hMa hb hMb hmn fun h' o' hk ho hM => ?_)
  exact wpAny_pure ⟨_, rfl, fun e => Value.noConfusion e, h h' o' hk ho hM⟩
theorem opOr {a b : Addr} {oa ob : Obj} {m n : Nat} (ha : s.heap.get? a = some oa) (hMa : IsM (byT w) m oa) (hb : s.heap.get? b = some ob) (hMb : IsM (byT w) n ob) (hmn : a = b → m = n) {Q : Value → Shared → Prop}
    (h : ∀ h' o', (∀ c o, s.heap.get? c = some o → h'.get? c = some o) → h'.get? s.heap.objs.size = some o' → IsM (byT w) (m ||| n) o' → Q (.ref s.heap.objs.size) { s with heap := h' }) :
    wpAny (model prog w) A (binaryOp .BitOr (.ref a) (.ref b)) Q E s := by
  have hTa := hMa.type ha
  have hTb := hMb.type hb
  refine wpAny_binaryOp_same (op := .BitOr) hTa hTb PySem.F.fills_set_or PySem.F.slot_set_or (wpAny_call_entry PySem.F.slot_set_or hTa F.entry_set_or ?_ (PySem.F.args_set_or_2 _ _))
  rw [or_eq]
  refine wpAny_bind (slot1M ?_)
  dsimp only
  refine wpAny_bind (wpAny_bind (anySetM hTa ?_))
  refine anySetM hTb ?_
  simp only [Bool.not_true, Bool.false_eq_true, ↓reduceIte]
  refine wpAny_bind (wpAny_pure ?_)
  refine wpAny_bind (unionM ha hMa hb hMb hmn fun h' o' hk ho hM => ?_)
  exact wpAny_pure ⟨_, rfl, fun e => Value.noConfusion e, h h' o' hk ho hM⟩
theorem subset0M {id : String} {a b : Addr} {oa ob : Obj} {Q : Bool → Shared → Prop} (ha : s.heap.get? a = some oa) (hMa : IsM (byT w) 0 oa) (hb : s.heap.get? b = some ob) (hMb : IsM (byT w) 0 ob) (h : Q true s) :
    wpAny (model prog w) A (Builtin.Frozenset.subsetOf id a b) Q E s := by
  unfold Builtin.Frozenset.subsetOf
  refine wpAny_bind (sizeM ha hMa (wpAny_bind (sizeM hb hMb ?_)))
  rw [if_neg (Nat.lt_irrefl _)]
  refine wpAny_bind (epochM ha hMa fun tk ep k f l mv e => ?_)
  unfold Builtin.Frozenset.walkUnseen setEntries
  subst e
  obtain ⟨_, tk2, ep2, k2, f2, l2, mv2, e2, hk2, _⟩ := hMa
  have hk : okMask k (vals 0).length = true := by
    simp only [setO, tab, Obj.mk.injEq, Data.set.injEq, SetTable.mk.injEq] at e2
    rw [e2.2.2.1.2.2.1]; exact hk2
  obtain ⟨_, tk3, ep3, k3, f3, l3, mv3, rfl, hk3, _⟩ := hMb
  refine wpAny_bind (wpAny_bind (wpAny_bind (state_M ha hk (wpAny_pure ?_))))
  refine wpAny_bind (wpAny_bind (state_M hb hk3 (wpAny_pure ?_)))
  have e0 : ∀ tk, (ents tk 0).toArray = #[] := fun tk => by simp [ents, vals_zero]
  rw [e0, e0]
  simp only [List.append_nil]
  refine wpAny_bind ?_
  rw [List.forIn_nil]
  refine wpAny_pure (wpAny_pure ?_)
  rw [List.forIn_nil]
  exact wpAny_bind (wpAny_pure (wpAny_pure h))
theorem opNeNone {a b : Addr} {oa ob : Obj} {m : Nat} (ha : s.heap.get? a = some oa) (hMa : IsM (byT w) m oa) (hb : s.heap.get? b = some ob) (hMb : IsM (byT w) 0 ob) (hu : A.units < cLine) {Q : Value → Shared → Prop}
    (h : Q (.bool (decide (m ≠ 0))) s) :
    wpAny (model prog w) A (compareOp .NotEq (.ref a) (.ref b)) Q E s := by
  have hTa := hMa.type ha
  have hTb := hMb.type hb
  show wpAny (model prog w) A (richCompare .NotEq (.ref a) (.ref b)) Q E s
  refine wpAny_richCompare_same_room hTa hTb PySem.F.slot_set_ne (wpAny_call_entry PySem.F.slot_set_ne hTa F.entry_set_ne ?_ (PySem.F.args_set_ne_2 _ _)) hu
  unfold Builtin.«frozenset.__ne__»
  refine wpAny_bind (m := Builtin.Frozenset.slot1 "__ne__" _) (slot1M ?_)
  dsimp only
  refine wpAny_bind (anySetM hTb ?_)
  simp only [Bool.not_true, Bool.false_eq_true, ↓reduceIte]
  refine wpAny_bind (wpAny_pure ?_)
  refine wpAny_bind (wpAny_pure ?_)
  refine wpAny_bind (sizeM ha hMa ?_)
  refine wpAny_bind (sizeM hb hMb ?_)
  have hm0 := vals_nil hMa.1
  by_cases hm : m = 0
  · subst hm
    rw [if_neg (by simp)]
    refine wpAny_bind (wpAny_bind (wpAny_bind (wpAny_isInstance hTa sub_set_frozen ?_)))
    refine wpAny_pure ?_
    rw [if_neg Bool.false_ne_true]
    refine subset0M ha hMa hb hMb (wpAny_pure ⟨_, rfl, fun e => Value.noConfusion e, ?_⟩)
    simpa using h
  · have : ((vals m).length != (vals 0).length) = true := by rw [bne_iff_ne, show (vals 0).length = 0 from rfl]; intro e; exact hm (hm0.mp e)
    rw [if_pos this]
    refine wpAny_bind (wpAny_pure (wpAny_pure ⟨_, rfl, fun e => Value.noConfusion e, ?_⟩))
    have e : (!false) = decide (m ≠ 0) := by simp [hm]
    rw [e]; exact h
end
end Mine
end
section
open PySem PySem.W PyProof.Rows
namespace Mine
section
variable {prog : Program} {w : World} {A : Around} {E : Value → Shared → Prop} {s : Shared}
theorem code_newM (rest : List Value) (hnew : checkBuiltinCall "set.__new__" ⟨.type "set" :: rest, []⟩ = pure ()) {Q₁ : Value → Shared → Prop}
    (h : ∀ h' o, h' = s.heap.push o → h'.get? s.heap.objs.size = some o → IsM (byT w) 0 o → Q₁ (.ref s.heap.objs.size) { s with heap := h' }) :
    codeAny (model prog w) A (.call (.builtin "set.__new__") ⟨.type "set" :: rest, []⟩) (wants Q₁ E) s := by
  refine codeAny_of_tree ?_
  show wpAny _ A.in1 (do checkBuiltinCall "set.__new__" ⟨.type "set" :: rest, []⟩; again (.builtin "set.__new__" ⟨.type "set" :: rest, []⟩)) _ _ s
  refine wpAny_bind (wpAny_of_eq hnew (wpAny_pure ⟨plainId_quiet PySem.F.plain_set_new _, codeAny_builtin PySem.F.entry_set_new ?_⟩))
  rw [Around.under_plainId PySem.F.plain_set_new _]
  unfold Builtin.«set.__new__» Builtin.Frozenset.newClass
  have hsub := sub_set_self
  generalize hN : newSet = N
  wp_walk
  subst hN
  exact newSetM fun h' o e1 e2 e3 _ => wpAny_pure (h h' o e1 e2 e3)
noncomputable def maskOf (us : List Nat) : Nat := us.foldl (fun m u => m ||| 2 ^ u) 0
theorem maskOf_snoc (us : List Nat) (u : Nat) : maskOf (us ++ [u]) = maskOf us ||| 2 ^ u := by simp [maskOf]
theorem fillLoop {I : Addr} {fp wr : List Addr} {n : Nat} {P : Nat → Value → Prop} {St : Nat → Heap → Prop} {R : Result → Shared → Prop} (W : Walks prog w A.in1 I fp wr n P St) (S : Addr) (hSf : S ∉ fp)
    (us : List Nat) (hn : us.length = n) (hval : ∀ i v, P i v → ∃ u t, us[i]? = some u ∧ u < 5 ∧ v = .int (u : Int) t) :
    ∀ (k i : Nat) (s : Shared) (o : Obj), n - i = k → i ≤ n → St i s.heap → s.heap.get? S = some o → IsM (byT w) (maskOf (us.take i)) o →
      (∀ h' tk o', (∀ b o, b ∉ S :: wr → s.heap.get? b = some o → h'.get? b = some o) → h'.get? S = some o' → IsM (byT w) (maskOf us) o' → R (.ok (.ret .none)) { s with heap := h', toks := tk }) →
      codeAny (model prog w) A (.builtin "set.update.loop" ⟨[.ref S, .ref I], []⟩) R s := by
  have hSw : S ∉ wr := fun h => hSf (W.sub _ h)
  intro k
  induction k with
  | zero =>
    intro i s o hk hi hst ho hM hR
    have hin : i = n := by omega
    subst hin
    refine codeAny_builtin PyProof.Rows.F.entry_set_update_loop ?_
    rw [Around.under_plainId PyProof.Rows.F.plain_set_update_loop _]
    show wpAny _ A.in1 (pyNext (.ref I) >>= _) _ _ s
    refine wpAny_bind (W.done s _ _ hst fun h' tk hk' => ?_)
    show wpAny _ A.in1 (ret Value.none) _ _ _
    rw [← hn, List.take_length] at hM
    exact wpAny_pure (hR h' tk o (fun b o hb e => hk' b o (fun q => hb (List.mem_cons_of_mem _ q)) e) (hk' S o hSw ho) hM)
  | succ k ih =>
    intro i s o hk hi hst ho hM hR
    have hlt : i < n := by omega
    refine codeAny_builtin PyProof.Rows.F.entry_set_update_loop ?_
    rw [Around.under_plainId PyProof.Rows.F.plain_set_update_loop _]
    show wpAny _ A.in1 (pyNext (.ref I) >>= _) _ _ s
    refine wpAny_bind (W.item i s _ _ hlt hst fun v h' tk hP hst' hk' => ?_)
    obtain ⟨u, t, hu, h5, rfl⟩ := hval i v hP
    show wpAny _ A.in1 (holding [Value.int (u : Int) t] (setAdd S (.int (u : Int) t)) >>= _) _ _ _
    refine wpAny_bind (wpAny_holding ?_)
    unfold setAdd
    refine wpAny_holding ?_
    refine wpAny_bind ((intKind prog w).pyHash (k := (u : Int)) (by simp [intKind, Value.isInt]) ?_)
    rw [show (intKind prog w).hash (u : Int) = (u : Int) from hashInt_small h5]
    refine addM (hk' S o hSw ho) hM h5 fun h2 o2 hsb2 ho2 hM2 => ?_
    refine wpAny_pure ⟨plainId_quiet PyProof.Rows.F.plain_set_update_loop _, ih (i + 1) _ o2 (by omega) hlt (W.frame _ h' _ hst' fun b hb o e => ?_) ho2 ?_ fun h3 tk3 o3 hk3 ho3 hM3 => ?_⟩
    · exact (hsb2.2 b (fun h : b = S => hSf (by rw [← h]; exact hb))).trans e
    · rw [List.take_add_one, hu]
      show IsM (byT w) (maskOf (us.take i ++ [u])) o2
      rw [maskOf_snoc]; exact hM2
    · refine hR h3 tk3 o3 (fun b o hb e => hk3 b o hb ?_) ho3 hM3
      show h2.get? b = some o
      rw [hsb2.2 b (fun h : b = S => hb (by rw [h]; exact List.mem_cons_self))]
      exact hk' b o (fun q => hb (List.mem_cons_of_mem _ q)) e
set_option maxHeartbeats 3200000 in
theorem callSetGen (rest : List Value) (hct : checkTypeCall "set" ⟨rest, []⟩ = pure ()) (hnew : checkBuiltinCall "set.__new__" ⟨.type "set" :: rest, []⟩ = pure ()) {Q : Value → Shared → Prop}
    (init : ∀ A' h' o, A'.handled = A.handled → h' = s.heap.push o → h'.get? s.heap.objs.size = some o → IsM (byT w) 0 o →
      codeAny (model prog w) A' (.call (.builtin "set.__init__") ⟨.ref s.heap.objs.size :: rest, []⟩) (wants (fun r s₂ => r = .none ∧ Q (.ref s.heap.objs.size) s₂) E) { s with heap := h' }) :
    wpAny (model prog w) A (call (.type "set") rest) Q E s := by
  obtain ⟨c, tl, hmro⟩ := PySem.F.called_set.mro
  have hmade := PySem.F.called_set.made
  have hsub := PySem.F.called_set.sub
  refine wpAny_call (codeAny_of_tree ?_)
  show wpAny _ _ (callAny (.type "set") _) _ _ _
  refine wpAny_pure ⟨Code.quiet_builtin _ (by decide +kernel), codeAny_builtin PySem.F.entry_type_call ?_⟩
  rw [Around.under_plain (weight_type_call_type "set" rest []) rfl]
  have h1 := PySem.F.called_set.notType
  have h2 := PySem.F.called_set.canCreate
  repeat (any_goals (first | assumption | wp_step))
  refine codeAny_mono (code_newM rest hnew (E := E) (Q₁ := fun obj s₁ => ∃ h' o, obj = .ref s.heap.objs.size ∧ s₁ = { s with heap := h' } ∧ h' = s.heap.push o ∧ h'.get? s.heap.objs.size = some o ∧ IsM (byT w) 0 o)
    fun h' o e1 e2 e3 => ⟨h', o, rfl, rfl, e1, e2, e3⟩) fun r s₁ hr => ?_
  cases r with
  | error e => exact hr
  | ok fl =>
    cases fl with
    | ret obj =>
      obtain ⟨h', o, rfl, rfl, e1, e2, e3⟩ := hr
      have hT : Shared.TypeIs { s with heap := h' } (.ref s.heap.objs.size) "set" := e3.type (s := { s with heap := h' }) e2
      have hli := PySem.F.called_set.init.lookup
      have hbi := PySem.F.called_set.init.bind (.ref s.heap.objs.size)
      repeat (any_goals (first | assumption | wp_step))
      refine codeAny_mono (init _ h' o (by simp) e1 e2 e3) fun r₂ s₂ hr₂ => ?_
      cases r₂ with
      | error e => exact hr₂
      | ok fl₂ =>
        cases fl₂ with
        | ret r =>
          obtain ⟨rfl, hq⟩ := hr₂
          repeat (any_goals (first | assumption | wp_step))
        | _ => exact hr₂.elim
    | _ => exact hr.elim
theorem usedM {a : Addr} {o : Obj} {Q : Bool → Shared → Prop} (ho : s.heap.get? a = some o) (hM : IsM (byT w) 0 o) (h : Q false s) : wpAny (model prog w) A (setUsed a) Q E s := by
  obtain ⟨_, tk, ep, k, f, l, mv, rfl, hk, hl⟩ := hM
  unfold setUsed
  refine wpAny_bind (state_M ho hk (wpAny_pure ?_))
  have : ((tab k 0 f l mv).fill != 0) = false := by simp [SetTable.fill, tab, vals_zero]
  show Q ((tab k 0 f l mv).fill != 0) _
  rw [this]; exact h
theorem callSet0 {Q : Value → Shared → Prop}
    (h : ∀ h' o, h' = s.heap.push o → h'.get? s.heap.objs.size = some o → IsM (byT w) 0 o → Q (.ref s.heap.objs.size) { s with heap := h' }) :
    wpAny (model prog w) A (call (.type "set") []) Q E s := by
  refine callSetGen [] PySem.F.typeCall_set_0 PySem.F.newCall_set_0 fun A' h' o hA e1 e2 e3 => ?_
  have hT : Shared.TypeIs { s with heap := h' } (.ref s.heap.objs.size) "set" := e3.type (s := { s with heap := h' }) e2
  refine codeAny_call_builtin PySem.F.called_set.init.plain PySem.F.entry_set_init (check_set_init hT ?_)
  unfold Builtin.«set.__init__» noKeywords
  generalize hU : setUsed = U
  wp_walk
  subst hU
  refine usedM (s := { s with heap := h' }) e2 e3 ?_
  exact wpAny_pure ⟨rfl, h h' o e1 e2 e3⟩
end
end Mine
end
section
open PySem PySem.W PyProof.Rows
namespace Mine
section
variable {prog : Program} {w : World} {A : Around} {E : Value → Shared → Prop} {s : Shared}
theorem callSet1 {l : Addr} {items : Array Value} (us : List Nat) (hh : A.handled = none) (hl : s.heap.IsList l items) (hn : us.length = items.size)
    (hval : ∀ (i : Nat) (v : Value), items[i]? = some v → ∃ (u : Nat) (t : Tok), us[i]? = some u ∧ u < 5 ∧ v = Value.int (u : Int) t) {Q : Value → Shared → Prop}
    (h : ∀ h' tk o, (∀ b o, s.heap.get? b = some o → h'.get? b = some o) → h'.get? s.heap.objs.size = some o → IsM (byT w) (maskOf us) o → Q (.ref s.heap.objs.size) { s with heap := h', toks := tk }) :
    wpAny (model prog w) A (call (.type "set") [.ref l]) Q E s := by
  refine callSetGen [.ref l] (PySem.F.typeCall_set_1 _) (PySem.F.newCall_set_1 _) fun A' h' o hA e1 e2 e3 => ?_
  have hT : Shared.TypeIs { s with heap := h' } (.ref s.heap.objs.size) "set" := e3.type (s := { s with heap := h' }) e2
  refine codeAny_call_builtin PySem.F.called_set.init.plain PySem.F.entry_set_init (check_set_init_1 hT ?_)
  have hk1 : ∀ b o, s.heap.get? b = some o → h'.get? b = some o := fun b o e => by rw [e1]; exact Heap.get?_push_of_some _ e
  have hl1 : h'.IsList l items := hl.at fun o e => hk1 l o e
  have hTl : Shared.TypeIs { s with heap := h' } (.ref l) "list" := by
    obtain ⟨ol, hol, hcl, _⟩ := hl1; exact ⟨ol, hol, hcl⟩
  have hsls := PySem.F.sub_list_set
  have hslf := PySem.F.sub_list_frozenset
  have hne : (Value.type "list" == Value.type "dict") = false := by decide
  unfold Builtin.«set.__init__» noKeywords Builtin.Frozenset.updateFrom
  generalize hU : setUsed = U
  generalize hPI : pyIter = PI
  wp_walk
  subst hU
  refine usedM (s := { s with heap := h' }) e2 e3 ?_
  wp_walk
  subst hPI
  refine wpAny_pyIter_list hl1 ?_
  refine wpAny_bind (wpAny_runValue ?_)
  have hls : l < h'.objs.size := by obtain ⟨ol, hol, _⟩ := hl1; exact Heap.lt_size hol
  have hlS : l < s.heap.objs.size := by obtain ⟨ol, hol, _⟩ := hl; exact Heap.lt_size hol
  have hSs : s.heap.objs.size < h'.objs.size := Heap.lt_size e2
  have hh3 : A'.in1.in1.handled = none := by simp [hA, hh]
  have hSf : s.heap.objs.size ∉ [h'.objs.size, l] := by
    simp only [List.mem_cons, List.not_mem_nil, or_false, not_or]
    exact ⟨Nat.ne_of_lt hSs, Nat.ne_of_gt hlS⟩
  refine fillLoop (Walks.list hh3 _ l (Nat.ne_of_lt hls) items) s.heap.objs.size hSf us hn hval (items.size - 0) 0 { s with heap := h'.push { cls := .type "list_iterator", data := .fields #[.ref l, .int 0 0] } } o (by omega) (Nat.zero_le _)
    ⟨⟨_, Heap.get?_push_size _ rfl, rfl, rfl⟩, (hl1.push _)⟩ (Heap.get?_push_of_some _ e2) (by simpa [maskOf] using e3) fun h3 tk o3 hk3 ho3 hM3 => ?_
  refine wpAny_pure ?_
  show wpAny _ _ (ret Value.none) _ _ _
  refine wpAny_pure ⟨rfl, h h3 tk o3 (fun b o hb => ?_) ho3 hM3⟩
  have hbs := Heap.lt_size hb
  refine hk3 b o ?_ (Heap.get?_push_of_some _ (hk1 b o hb))
  simp only [List.mem_cons, List.not_mem_nil, or_false, not_or]
  exact ⟨Nat.ne_of_lt hbs, Nat.ne_of_lt (Nat.lt_trans hbs hSs)⟩
end
end Mine
end
section
open PySem PySem.W PyProof.Rows
namespace Mine
namespace F
open PySem.F
theorem entry_set_iter : entryFor table "set.__iter__" = some Builtin.«frozenset.__iter__» :=
  entryFor_alias (id' := "frozenset.__iter__") (by kernel_rfl) (by first | rfl | decide +kernel) (by decide +kernel) (by kernel_rfl)
theorem owner_set_iterator : Manifest.owners.lookup (String.ofList ['r', 'o', 't', 'a', 'r', 'e', 't', 'i', '_', 't', 'e', 's'].reverse) = some Manifest.sig_set_iterator := by kernel_rfl
theorem slot_set_iterator_next : Slot "set_iterator" "__next__" "set_iterator.__next__" :=
  .of (owner := "set_iterator") (n := "__next__") (by rw [typeLookup_type, builtinLookup_eq_fast]; kernel_rfl) (by decide +kernel) (by decide +kernel) (by decide +kernel)
    (by first | exact .inl (by decide +kernel) | exact .inr (by decide +kernel)) (by rw [isSubtype_type]; kernel_rfl)
theorem entry_set_iterator_next : entryFor table "set_iterator.__next__" = some Builtin.«set_iterator.__next__» := entryFor_of_tree (by kernel_rfl)
theorem args_set_iterator_next_1 (a : Value) : argsOk "set_iterator.__next__" ⟨[a], []⟩ := by
  unfold argsOk; rw [signature?_of (id := "set_iterator.__next__") (n := ['_', '_', 't', 'x', 'e', 'n', '_', '_']) (o := ['r', 'o', 't', 'a', 'r', 'e', 't', 'i', '_', 't', 'e', 's']) (by kernel_rfl) owner_set_iterator]; kernel_rfl
theorem len_set : typeLookup (.type "set") "__len__" = pure (some (.builtin "set.__len__")) := by rw [typeLookup_type, builtinLookup_eq_fast]; kernel_rfl
theorem split_set_len : splitId "set.__len__" = some ("set", "__len__") := by kernel_rfl
end F
section
variable {prog : Program} {w : World} {A : Around} {E : Value → Shared → Prop} {s : Shared}
noncomputable def iterO (j i : Nat) (a : Addr) (n ep : Nat) : Obj := { cls := .type "set_iterator", data := .fields #[.int j 0, .int i 0, .ref a, .int n 0, .int ep 0] }
theorem iterM {a : Addr} {tk : Nat → Tok} {m ep k f : Nat} {l : Bool} {mv : Nat} (ho : s.heap.get? a = some (setO tk m ep k f l mv)) (hk : okMask k (vals m).length = true) {Q : Value → Shared → Prop}
    (h : Q (.ref s.heap.objs.size) { s with heap := s.heap.push (iterO 0 0 a (vals m).length ep) }) : wpAny (model prog w) A (pyIter (.ref a)) Q E s := by
  have hT : s.TypeIs (.ref a) "set" := ⟨_, ho, rfl⟩
  refine wpAny_pyIter_slot hT PySem.F.slot_set_iter (wpAny_call_entry PySem.F.slot_set_iter hT F.entry_set_iter ?_ (PySem.F.args_set_iter_1 _))
  unfold Builtin.«frozenset.__iter__»
  refine wpAny_bind (m := Builtin.Frozenset.slot0 "__iter__" _) (wpAny_pure ?_)
  unfold Builtin.Frozenset.sizeOf setEntries setDrawn setEpoch
  refine wpAny_bind (wpAny_bind (wpAny_bind (state_M ho hk (wpAny_pure (wpAny_pure ?_)))))
  refine wpAny_bind (wpAny_bind (state_M ho hk ?_))
  dsimp only
  refine wpAny_bind (setsByText_M (wpAny_pure ?_))
  have hd : ∀ b : Bool, (!b && false) = false := by intro b; cases b <;> rfl
  show wpAny _ _ (if (!byT w && false) = true then _ else _) _ _ _
  rw [hd, if_neg Bool.false_ne_true]
  refine wpAny_bind (wpAny_pure ?_)
  refine wpAny_bind (wpAny_bind (state_M ho hk (wpAny_pure ?_)))
  refine wpAny_bind (wpAny_newObj_type (wpAny_pure ⟨_, rfl, "set_iterator", _, ⟨_, Heap.get?_push_size _ rfl, rfl⟩, F.slot_set_iterator_next.lookup, ?_⟩))
  rw [ents_size]
  exact h
end
end Mine
end
section
open PySem PySem.W PyProof.Rows
namespace Mine
section
variable {prog : Program} {w : World} {A : Around} {E : Value → Shared → Prop} {s : Shared}
noncomputable def ordM (w : World) (a : Addr) (ep : Nat) (tk : Nat → Tok) (m : Nat) : Array (Int × Value) := if byT w = true then pickOrder (w.params.setOrder a ep) (ents tk m).toArray else (ents tk m).toArray
theorem ord_perm (w : World) (a : Addr) (ep : Nat) (tk : Nat → Tok) (m : Nat) : (ordM w a ep tk m).toList.Perm (ents tk m) := by
  unfold ordM
  split
  · refine (pick_perm _ _ _ _ _ (by simp)).trans ?_
    simp
  · exact List.Perm.refl _
noncomputable def slotAt (w : World) (m i : Nat) : Nat := if byT w = true then 0 else if i = 0 then 0 else (vals m).getD (i - 1) 0 + 1
theorem below_slot {w : World} (hb : byT w = false) {m i : Nat} (hm : m < 32) (hi : i ≤ (vals m).length) : SetTable.below (vals m).toArray (slotAt w m i) = i := by
  have : ∀ m ∈ List.range 32, ∀ i ∈ List.range 6, i ≤ (vals m).length → SetTable.below (vals m).toArray (if i = 0 then 0 else (vals m).getD (i - 1) 0 + 1) = i := by decide +kernel
  unfold slotAt
  rw [hb, if_neg Bool.false_ne_true]
  have h5 := vals_len hm
  exact this m (List.mem_range.mpr hm) i (List.mem_range.mpr (by omega)) hi
theorem walkOrd {a : Addr} {tk : Nat → Tok} {m ep k f : Nat} {l : Bool} {mv : Nat} {Q : Array (Int × Value) → Shared → Prop}
    (ho : s.heap.get? a = some (setO tk m ep k f l mv)) (hk : okMask k (vals m).length = true) (hl : l = true ∨ byT w = true)
    (h : Q (ordM w a ep tk m) s) : wpAny (model prog w) A (setWalk a) Q E s := by
  unfold setWalk
  refine wpAny_bind (state_M ho hk ?_)
  dsimp only
  refine wpAny_bind (setsByText_M ?_)
  unfold ordM at h
  cases hb : byT w with
  | true =>
    rw [hb, if_pos rfl] at h
    simp only [↓reduceIte]
    exact wpAny_bind (wpAny_askSetting (wpAny_pure h))
  | false =>
    rw [hb, if_neg Bool.false_ne_true] at h
    simp only [Bool.false_eq_true, ↓reduceIte]
    have hl' : l = true := hl.resolve_right (by rw [hb]; exact Bool.false_ne_true)
    subst hl'
    show wpAny _ _ (if false = true then _ else ((pure () : Sem Unit) >>= fun _ => pure (ents tk m).toArray)) _ _ _
    rw [if_neg Bool.false_ne_true]
    exact wpAny_bind (wpAny_pure (wpAny_pure h))
theorem setNextM {a : Addr} {tk : Nat → Tok} {m ep k f i : Nat} {l : Bool} {mv : Nat} {Q : Option (Value × Nat) → Shared → Prop} (hm : m < 32)
    (ho : s.heap.get? a = some (setO tk m ep k f l mv)) (hk : okMask k (vals m).length = true) (hl : l = true ∨ byT w = true) (hi : i ≤ (vals m).length)
    (h : Q (((ordM w a ep tk m)[i]?).map fun e => (e.2, slotAt w m (i + 1))) s) : wpAny (model prog w) A (setNext a (slotAt w m i) i ep) Q E s := by
  unfold setNext
  refine wpAny_bind (state_M ho hk ?_)
  dsimp only
  refine wpAny_bind (setsByText_M ?_)
  cases hb : byT w with
  | true =>
    simp only [↓reduceIte, bne_self_eq_false, Bool.false_eq_true]
    refine wpAny_bind (walkOrd ho hk hl (wpAny_pure ?_))
    have e1 : ∀ i, slotAt w m i = 0 := fun i => by unfold slotAt; rw [hb, if_pos rfl]
    rw [e1] at h ⊢
    exact h
  | false =>
    have hl' : l = true := hl.resolve_right (by rw [hb]; exact Bool.false_ne_true)
    subst hl'
    show wpAny _ _ (if false = true then _ else if false = true then _ else ((pure () : Sem Unit) >>= fun _ => pure (match (ents tk m).toArray[SetTable.below (tab k m f true mv).place (slotAt w m i)]?, (tab k m f true mv).place[SetTable.below (tab k m f true mv).place (slotAt w m i)]? with
      | some (_, x), some j => some (x, j + 1)
      | _, _ => none))) _ _ _
    rw [if_neg Bool.false_ne_true, if_neg Bool.false_ne_true]
    refine wpAny_bind (wpAny_pure (wpAny_pure ?_))
    have e2 : SetTable.below (tab k m f true mv).place (slotAt w m i) = i := below_slot hb hm hi
    rw [e2]
    have e3 : ordM w a ep tk m = (ents tk m).toArray := by unfold ordM; rw [hb, if_neg Bool.false_ne_true]
    rw [e3] at h
    have e4 : (tab k m f true mv).place = (vals m).toArray := rfl
    rw [e4]
    by_cases hlt : i < (vals m).length
    · have e5 : (ents tk m).toArray[i]? = some (((vals m)[i] : Int), Value.int ((vals m)[i] : Int) (tk (vals m)[i])) := by simp [ents, hlt]
      have e6 : (vals m).toArray[i]? = some (vals m)[i] := by simp [hlt]
      rw [e5] at h ⊢
      rw [e6]
      simp only [Option.map_some] at h
      have e7 : slotAt w m (i + 1) = (vals m)[i] + 1 := by
        unfold slotAt; rw [hb, if_neg Bool.false_ne_true, if_neg (by omega)]; simp [List.getD, hlt]
      rw [e7] at h
      exact h
    · have e5 : (ents tk m).toArray[i]? = none := by simp [ents]; omega
      rw [e5] at h ⊢
      exact h
end
end Mine
end
section
open PySem PySem.W PyProof.Rows
namespace Mine
section
variable {prog : Program} {w : World} {A : Around} {E : Value → Shared → Prop} {s : Shared}
theorem iter_store {h : Heap} {I a : Addr} {j i n ep : Nat} (hI : h.get? I = some (iterO j i a n ep)) (k : Nat) (v : Value) :
    (h.update I (Obj.mapFields fun fs => fs.set! k v)).get? I = some { cls := .type "set_iterator", data := .fields ((#[.int j 0, .int i 0, .ref a, .int n 0, .int ep 0] : Array Value).set! k v) } := by
  have := Heap.get?_update_self (Obj.mapFields fun fs => fs.set! k v) hI (by rfl)
  exact this
theorem nextM_item {a I : Addr} {tk : Nat → Tok} {m ep k f i : Nat} {l : Bool} {mv : Nat} {v : Value} {Q : Option Value → Shared → Prop} (hm : m < 32)
    (ho : s.heap.get? a = some (setO tk m ep k f l mv)) (hk : okMask k (vals m).length = true) (hl : l = true ∨ byT w = true) (hi : i < (vals m).length)
    (hI : s.heap.get? I = some (iterO (slotAt w m i) i a (vals m).length ep)) (hv : ((ordM w a ep tk m)[i]?).map (·.2) = some v)
    (h : ∀ h', Heap.SameBut I s.heap h' → h'.get? I = some (iterO (slotAt w m (i + 1)) (i + 1) a (vals m).length ep) → Q (some v) { s with heap := h' }) : wpAny (model prog w) A (pyNext (.ref I)) Q E s := by
  have hT : s.TypeIs (.ref I) "set_iterator" := ⟨_, hI, rfl⟩
  unfold pyNext
  refine wpAny_bind (wpAny_attempt (wpAny_callSpecial?_slot (name := Str.ofString "__next__") hT F.slot_set_iterator_next
    (wpAny_call_entry F.slot_set_iterator_next hT F.entry_set_iterator_next ?_ (F.args_set_iterator_next_1 _))))
  unfold Builtin.«set_iterator.__next__»
  refine wpAny_bind (m := slotArgs "__next__" 0 _) (wpAny_pure ?_)
  dsimp only
  refine wpAny_bind (m := fieldsOf _) (wpAny_bind (wpAny_load hI (wpAny_pure ?_)))
  dsimp only [iterO]
  unfold setEntries
  refine wpAny_bind (wpAny_bind (state_M ho hk (wpAny_pure ?_)))
  dsimp only
  rw [ents_size]
  simp only [bne_self_eq_false, Bool.false_eq_true, ↓reduceIte]
  refine wpAny_bind (m := setNext _ _ _ _) ?_
  simp only [Int.toNat_natCast]
  refine setNextM hm ho hk hl (Nat.le_of_lt hi) ?_
  cases hx : (ordM w a ep tk m)[i]? with
  | none => rw [hx] at hv; cases hv
  | some e =>
    rw [hx] at hv
    simp only [Option.map_some, Option.some.injEq] at hv
    subst hv
    dsimp only [Option.map_some]
    refine wpAny_bind (wpAny_setField hI rfl (by simp) ?_)
    have h1 := iter_store hI 0 (rawInt (slotAt w m (i + 1)))
    refine wpAny_bind (wpAny_setField h1 rfl (by simp) ?_)
    refine wpAny_pure ⟨_, rfl, wpAny_pure (h _ ((Heap.SameBut.update ..).trans (Heap.SameBut.update ..)) ?_)⟩
    have h2 := Heap.get?_update_self (Obj.mapFields fun fs => fs.set! 1 (rawInt ((i : Int) + 1))) h1 (by rfl)
    exact h2
theorem nextM_end {a I : Addr} {tk : Nat → Tok} {m ep k f : Nat} {l : Bool} {mv : Nat} {Q : Option Value → Shared → Prop} (hh : A.handled = none) (hm : m < 32)
    (ho : s.heap.get? a = some (setO tk m ep k f l mv)) (hk : okMask k (vals m).length = true) (hl : l = true ∨ byT w = true)
    (hI : s.heap.get? I = some (iterO (slotAt w m (vals m).length) (vals m).length a (vals m).length ep))
    (h : ∀ h', Heap.ExtBut I s.heap h' → Q none { s with heap := h' }) : wpAny (model prog w) A (pyNext (.ref I)) Q E s := by
  have hT : s.TypeIs (.ref I) "set_iterator" := ⟨_, hI, rfl⟩
  unfold pyNext
  refine wpAny_bind (wpAny_attempt (wpAny_callSpecial?_slot (name := Str.ofString "__next__") hT F.slot_set_iterator_next
    (wpAny_call_entry F.slot_set_iterator_next hT F.entry_set_iterator_next ?_ (F.args_set_iterator_next_1 _))))
  unfold Builtin.«set_iterator.__next__»
  refine wpAny_bind (m := slotArgs "__next__" 0 _) (wpAny_pure ?_)
  dsimp only
  refine wpAny_bind (m := fieldsOf _) (wpAny_bind (wpAny_load hI (wpAny_pure ?_)))
  dsimp only [iterO]
  unfold setEntries
  refine wpAny_bind (wpAny_bind (state_M ho hk (wpAny_pure ?_)))
  dsimp only
  rw [ents_size]
  simp only [bne_self_eq_false, Bool.false_eq_true, ↓reduceIte]
  refine wpAny_bind (m := setNext _ _ _ _) ?_
  simp only [Int.toNat_natCast]
  refine setNextM hm ho hk hl (Nat.le_refl _) ?_
  have hx : (ordM w a ep tk m)[(vals m).length]? = none := by
    have := (ord_perm w a ep tk m).length_eq
    rw [Array.getElem?_eq_none_iff, ← Array.length_toList, this]
    simp [ents]
  rw [hx]
  dsimp only [Option.map_none]
  refine wpAny_bind (wpAny_setField hI rfl (by simp) ?_)
  show wpAny _ _ (newExc (.type "StopIteration") [] >>= _) _ _ _
  refine wpAny_bind ?_
  simp only [newExc, newTuple]
  refine wpAny_bind (wpAny_newObj_type ?_ (by size_fits))
  refine wpAny_bind (m := firstArgMember _ _) (wpAny_of_eq (a := Value.none) (by first | rfl | (simp only [firstArgMember]; rfl)) ?_)
  refine wpAny_newObj_type ?_ (by size_fits)
  simp only [raiseNew]
  refine wpAny_bind (wpAny_handled ?_)
  first | rw [show A.in1.handled = none from hh] | rw [hh]
  refine wpAny_bind (wpAny_pure (wpAny_throw ?_))
  refine wpAny_bind (wpAny_isInstance (T := "StopIteration") (b := true) ⟨_, Heap.get?_push_size _ rfl, rfl⟩ isSubtype_stop ?_)
  exact wpAny_pure (h _ (((Heap.SameBut.update ..).extBut.push _).push _))
end
end Mine
end
section
open PySem PySem.W PyProof.Rows
namespace Mine
section
variable {prog : Program} {w : World} {A : Around} {E : Value → Shared → Prop} {s : Shared}
theorem extLoop {a I S : Addr} {tk : Nat → Tok} {m ep k f : Nat} {l : Bool} {mv : Nat} {res : Value} {R : Result → Shared → Prop} (hh : A.handled = none) (hm : m < 32) (hk : okMask k (vals m).length = true) (hl : l = true ∨ byT w = true)
    (hSI : S ≠ I) (hSa : S ≠ a) (haI : a ≠ I) :
    ∀ (d i : Nat) (s : Shared) (acc : Array Value) (c : Nat), (vals m).length - i = d → i ≤ (vals m).length → s.heap.get? a = some (setO tk m ep k f l mv) → s.heap.get? I = some (iterO (slotAt w m i) i a (vals m).length ep) →
      s.heap.get? S = some { cls := .type "list", dict := none, data := .seq acc c, slots := #[] } → acc.toList = ((ordM w a ep tk m).toList.take i).map (·.2) →
      (∀ h' c' acc', (∀ b o, b ≠ S → b ≠ I → s.heap.get? b = some o → h'.get? b = some o) → h'.get? S = some { cls := .type "list", dict := none, data := .seq acc' c', slots := #[] } → acc'.toList = (ordM w a ep tk m).toList.map (·.2) → R (.ok (.ret res)) { s with heap := h' }) →
      codeAny (model prog w) A (.builtin "list.extend.loop" ⟨[.ref S, .ref I, res], []⟩) R s := by
  have hlen : (ordM w a ep tk m).toList.length = (vals m).length := by rw [(ord_perm w a ep tk m).length_eq]; simp [ents]
  have hv5 := vals_len hm
  intro d
  induction d with
  | zero =>
    intro i s acc c hd hi ha hI hS hacc hR
    have hin : i = (vals m).length := by omega
    subst hin
    refine codeAny_builtin PySem.F.entry_extend_loop ?_
    rw [Around.under_plainId PySem.F.plain_extend_loop _]
    show wpAny _ A.in1 (pyNext (.ref I) >>= _) _ _ s
    refine wpAny_bind (nextM_end (A := A.in1) hh hm ha hk hl hI fun h' he => ?_)
    rw [← hlen, List.take_length] at hacc
    exact wpAny_pure (hR h' c acc (fun b o _ hb e => he b o hb e) (he S _ hSI hS) hacc)
  | succ d ih =>
    intro i s acc c hd hi ha hI hS hacc hR
    have hlt : i < (vals m).length := by omega
    have hlt2 : i < (ordM w a ep tk m).toList.length := by omega
    refine codeAny_builtin PySem.F.entry_extend_loop ?_
    rw [Around.under_plainId PySem.F.plain_extend_loop _]
    show wpAny _ A.in1 (pyNext (.ref I) >>= _) _ _ s
    have hx : (ordM w a ep tk m)[i]? = some ((ordM w a ep tk m).toList[i]) := by rw [← Array.getElem?_toList]; exact List.getElem?_eq_getElem hlt2
    refine wpAny_bind (nextM_item (v := ((ordM w a ep tk m).toList[i]).2) hm ha hk hl hlt hI (by rw [hx]; rfl) fun h' hsb hI' => ?_)
    show wpAny _ A.in1 (updateSeq S (·.push ((ordM w a ep tk m).toList[i]).2) >>= _) _ _ _
    have hS' : h'.get? S = some { cls := .type "list", dict := none, data := .seq acc c, slots := #[] } := (hsb.2 S hSI).trans hS
    have hacclen : acc.size ≤ 5 := by rw [← Array.length_toList, hacc]; simp; omega
    refine wpAny_bind ?_
    refine wpAny_updateSeq hS' rfl (wpAny_pure ⟨plainId_quiet PySem.F.plain_extend_loop _, ih (i + 1) _ (acc.push ((ordM w a ep tk m).toList[i]).2) _ (by omega) hlt ?_ ?_ (Heap.get?_update_self _ hS' rfl) ?_ fun h'' c' acc' hk'' hS'' hacc'' => ?_⟩)
      (by unfold sizeLine; omega) (by show (acc.push _).size ≤ sizeLine + 1; rw [Array.size_push]; unfold sizeLine; omega)
    · exact (Heap.get?_update_other _ _ hSa).trans ((hsb.2 a haI).trans ha)
    · exact (Heap.get?_update_other _ _ hSI).trans hI'
    · rw [Array.toList_push, hacc, List.take_add_one, List.getElem?_eq_getElem hlt2]
      simp
    · refine hR h'' c' acc' (fun b o h1 h2 e => hk'' b o h1 h2 ?_) hS'' hacc''
      exact (Heap.get?_update_other _ _ (Ne.symm h1)).trans ((hsb.2 b h2).trans e)
theorem collectM {a : Addr} {o : Obj} {m : Nat} (hh : A.handled = none) (ho : s.heap.get? a = some o) (hM : IsM (byT w) m o) {Q : List Value → Shared → Prop}
    (h : ∀ h' vs, s.heap.objs.size ≤ h'.objs.size → (∀ b o, s.heap.get? b = some o → h'.get? b = some o) → (∃ (tk : Nat → Tok) (es : List (Int × Value)), es.Perm (ents tk m) ∧ vs = es.map (·.2)) → Q vs { s with heap := h' }) :
    wpAny (model prog w) A (collect (.ref a)) Q E s := by
  obtain ⟨hm, tk, ep, k, f, l, mv, rfl, hk, hl⟩ := hM
  unfold collect
  refine wpAny_bind (wpAny_runValue (codeAny_builtin PySem.F.entry_proto_collect ?_))
  rw [Around.under_plainId PySem.F.plain_proto_collect _]
  show wpAny _ A.in1 (newList [] >>= fun l => again (.builtin "list.__iadd__" ⟨[l, .ref a], []⟩)) _ _ s
  refine wpAny_bind (wpAny_newObj_type ?_)
  refine wpAny_pure ⟨plainId_quiet PySem.F.plain_list_iadd _, codeAny_builtin PySem.F.entry_list_iadd ?_⟩
  rw [Around.under_plainId PySem.F.plain_list_iadd _]
  have la : a < s.heap.objs.size := Heap.lt_size ho
  have hSa : s.heap.objs.size ≠ a := Ne.symm (Nat.ne_of_lt la)
  have h1 : Builtin.List.listSameRef (.ref s.heap.objs.size) (.ref a) = false := by simp [Builtin.List.listSameRef, hSa]
  show wpAny _ A.in1 (Builtin.List.listExtendWith (.ref s.heap.objs.size) (.ref a) (.ref s.heap.objs.size)) _ _ _
  unfold Builtin.List.listExtendWith
  have ho1 : (s.heap.push { cls := .type "list", data := .seq ([] : List Value).toArray }).get? a = some (setO tk m ep k f l mv) := Heap.get?_push_of_some _ ho
  have hS1 : (s.heap.push { cls := .type "list", data := .seq ([] : List Value).toArray }).get? s.heap.objs.size = some { cls := .type "list", data := .seq ([] : List Value).toArray } := Heap.get?_push_size _ rfl
  have hT1 : Shared.TypeIs { s with heap := s.heap.push { cls := .type "list", data := .seq ([] : List Value).toArray } } (.ref a) "set" := ⟨_, ho1, rfl⟩
  refine wpAny_bind (wpAny_typeOf hT1 ?_)
  rw [if_neg (by rw [h1]; decide)]
  refine wpAny_bind (iterM ho1 hk ?_)
  have hsz : (s.heap.push { cls := .type "list", data := .seq ([] : List Value).toArray }).objs.size = s.heap.objs.size + 1 := Heap.size_push ..
  dsimp only
  rw [hsz]
  have ho2 : ((s.heap.push { cls := .type "list", data := .seq ([] : List Value).toArray }).push (iterO 0 0 a (vals m).length ep)).get? a = some (setO tk m ep k f l mv) := Heap.get?_push_of_some _ ho1
  have hS2 : ((s.heap.push { cls := .type "list", data := .seq ([] : List Value).toArray }).push (iterO 0 0 a (vals m).length ep)).get? s.heap.objs.size = some { cls := .type "list", data := .seq ([] : List Value).toArray } := Heap.get?_push_of_some _ hS1
  have hI2 : ((s.heap.push { cls := .type "list", data := .seq ([] : List Value).toArray }).push (iterO 0 0 a (vals m).length ep)).get? (s.heap.objs.size + 1) = some (iterO 0 0 a (vals m).length ep) := by
    rw [← hsz]; exact Heap.get?_push_size _ rfl
  have hk2 : ∀ b o, s.heap.get? b = some o → ((s.heap.push { cls := .type "list", data := .seq ([] : List Value).toArray }).push (iterO 0 0 a (vals m).length ep)).get? b = some o := fun b o e => Heap.get?_push_of_some _ (Heap.get?_push_of_some _ e)
  generalize ((s.heap.push { cls := .type "list", data := .seq ([] : List Value).toArray }).push (iterO 0 0 a (vals m).length ep)) = H2 at ho2 hS2 hI2 hk2 ⊢
  have hT2 : Shared.TypeIs { s with heap := H2 } (.ref a) "set" := ⟨_, ho2, rfl⟩
  refine wpAny_bind (wpAny_holding ?_)
  unfold Builtin.List.listLengthHint
  refine wpAny_bind (wpAny_specialOf hT2 F.len_set ?_)
  dsimp only
  rw [F.split_set_len]
  dsimp only
  refine wpAny_bind (wpAny_isInstance hT2 sub_set_self ?_)
  rw [if_neg (by decide)]
  rw [if_pos (by decide +kernel)]
  refine wpAny_bind (wpAny_typeOf hT2 ?_)
  refine wpAny_pure ?_
  rw [if_pos (by decide +kernel)]
  refine wpAny_bind (wpAny_rule ?_)
  refine wpAny_bind ?_
  show wpAny _ A.in1 (updateSeq s.heap.objs.size (·.push .none) >>= fun _ => updateSeq s.heap.objs.size (·.pop)) _ _ _
  refine wpAny_bind (wpAny_updateSeq hS2 rfl ?_)
  have hS3 := Heap.get?_update_self (Obj.mapSeq (·.push Value.none)) hS2 rfl
  refine wpAny_updateSeq hS3 rfl ?_
  have hS4 := Heap.get?_update_self (Obj.mapSeq (·.pop)) hS3 rfl
  have oth : ∀ b o, b ≠ s.heap.objs.size → H2.get? b = some o → ((H2.update s.heap.objs.size (Obj.mapSeq (·.push Value.none))).update s.heap.objs.size (Obj.mapSeq (·.pop))).get? b = some o :=
    fun b o hb e => (Heap.get?_update_other _ _ (Ne.symm hb)).trans ((Heap.get?_update_other _ _ (Ne.symm hb)).trans e)
  have hj : slotAt w m 0 = 0 := by unfold slotAt; split <;> rfl
  refine wpAny_pure ⟨plainId_quiet PySem.F.plain_extend_loop _, extLoop (a := a) (I := s.heap.objs.size + 1) (S := s.heap.objs.size) (tk := tk) (m := m) (ep := ep) (k := k) (f := f) (l := l) (mv := mv) hh hm hk hl (Nat.ne_of_lt (Nat.lt_succ_self _)) hSa (Nat.ne_of_lt (Nat.lt_succ_of_lt la)) _ 0 _ #[] _ rfl (Nat.zero_le _) (oth a _ (Ne.symm hSa) ho2) ?_ hS4 (by simp) fun h' c' acc' hk' hS' hacc' => ?_⟩
  · rw [hj]; exact oth _ _ (Ne.symm (Nat.ne_of_lt (Nat.lt_succ_self _))) hI2
  · show wpAny _ A (load s.heap.objs.size >>= _) _ _ _
    refine wpAny_bind (wpAny_load hS' ?_)
    refine wpAny_pure ?_
    refine h h' acc'.toList (Nat.le_of_lt (Heap.lt_size hS')) (fun b o e => ?_) ⟨tk, (ordM w a ep tk m).toList, ord_perm w a ep tk m, hacc'⟩
    have hb := Heap.lt_size e
    exact hk' b o (Nat.ne_of_lt hb) (Nat.ne_of_lt (Nat.lt_succ_of_lt hb)) (oth b o (Nat.ne_of_lt hb) (hk2 b o e))
noncomputable def intsM (m : Nat) : List Int := (vals m).map fun (v : Nat) => (v : Int)
theorem ints_sorted {m : Nat} (hm : m < 32) : (intsM m).Pairwise (· ≤ ·) := by
  have : ∀ m ∈ List.range 32, (intsM m).Pairwise (· ≤ ·) := by decide +kernel
  exact this m (List.mem_range.mpr hm)
theorem intsAre_map : ∀ (es : List Nat) (tk : Nat → Tok), IntsAre (es.map fun (v : Nat) => Value.int (v : Int) (tk v)) (es.map fun (v : Nat) => (v : Int))
  | [], _ => .nil
  | _ :: r, tk => .cons _ _ (intsAre_map r tk)
theorem sortedM {a : Addr} {o : Obj} {m : Nat} (hh : A.handled = none) (ho : s.heap.get? a = some o) (hM : IsM (byT w) m o) {Q : Value → Shared → Prop}
    (h : ∀ h' c (vs : List Value) e, (∀ b o, s.heap.get? b = some o → h'.get? b = some o) → s.heap.objs.size ≤ c → h'.get? c = some (seqObj "list" vs.toArray e) → IntsAre vs (intsM m) → Q (.ref c) { s with heap := h' }) :
    wpAny (model prog w) A (call (.builtin "sorted") [.ref a]) Q E s := by
  have hm := hM.1
  refine Calls.call_function_entry kind_sorted plain_sorted entry_sorted (args_sorted1 _) ?_
  unfold Builtin.«sorted»
  refine wpAny_bind (m := checkCount "sorted" 1 1 _) (wpAny_pure ?_)
  refine wpAny_bind (collectM (A := A.in1) hh ho hM fun h1 vs hle hk1 hvs => ?_)
  obtain ⟨tk, es, hp, rfl⟩ := hvs
  obtain ⟨us, hus, he⟩ : ∃ us : List Nat, us.Perm (vals m) ∧ es = us.map fun (v : Nat) => ((v : Int), Value.int (v : Int) (tk v)) := by
    refine ⟨es.map fun e => e.1.toNat, ?_, ?_⟩
    · have := hp.map fun e => e.1.toNat
      refine this.trans ?_
      rw [ents, List.map_map]
      have : ((fun e : Int × Value => e.1.toNat) ∘ fun (v : Nat) => ((v : Int), Value.int (v : Int) (tk v))) = id := by funext v; simp
      rw [this, List.map_id]
    · rw [List.map_map]
      symm
      have : ∀ e ∈ es, ((fun (v : Nat) => ((v : Int), Value.int (v : Int) (tk v))) ∘ fun e => e.1.toNat) e = e := by
        intro e he
        have := hp.mem_iff.mp he
        simp only [ents, List.mem_map] at this
        obtain ⟨v, _, rfl⟩ := this
        simp
      rw [List.map_congr_left this, List.map_id']
  have hvs : es.map (·.2) = us.map fun (v : Nat) => Value.int (v : Int) (tk v) := by rw [he, List.map_map]; rfl
  rw [hvs]
  have hI := intsAre_map us tk
  have h64 : (us.map fun (v : Nat) => Value.int (v : Int) (tk v)).length < 64 := by
    have := vals_len hm
    have := hus.length_eq
    simp; omega
  refine wpAny_bind (wpAny_newList ?_)
  have hoL : (h1.push (seqObj "list" (us.map fun (v : Nat) => Value.int (v : Int) (tk v)).toArray 0)).get? h1.objs.size = some (seqObj "list" (us.map fun (v : Nat) => Value.int (v : Int) (tk v)).toArray 0) := Heap.get?_push_size _ rfl
  refine wpAny_bind (wpAny_holding (wpAny_call_entry slot_list_sort ⟨_, hoL, rfl⟩ entry_list_sort (list_sort_tree hoL hI h64 fun out ns' a1 a2 a3 => ⟨_, rfl, ?_⟩) (args_list_sort _)))
  obtain ⟨e, hoE⟩ := sortedHeap_at (out := out) hoL
  have hns : ns' = intsM m := lks_uniq (a2.trans (hus.map _)) a3 (ints_sorted hm)
  subst hns
  refine wpAny_pure ⟨_, rfl, h _ _ out.toList e (fun b o' hb => ?_) hle ?_ a1⟩
  · have hb1 := Heap.lt_size (hk1 b o' hb)
    rw [sortedHeap_old (Nat.ne_of_lt hb1) (by rw [Heap.size_push]; exact Nat.lt_succ_of_lt hb1)]
    exact Heap.get?_push_of_some _ (hk1 b o' hb)
  · rw [hoE]
end
end Mine
end
section
open PySem PySem.W PyProof.Rows
namespace Mine
section
variable {prog : Program} {w : World} {A : Around} {E : Value → Shared → Prop} {s : Shared} {env : Env} {h₀ : Heap} {x : Str} {body : List Stmt} {Q : Flow → Shared → Prop}
noncomputable def TurnG (h₀ : Heap) (L : Addr) (x : Str) (stored : List Str) (m₀ : Str → Option Value) (I : Addr) (o : Obj) (G : List (Addr × Obj) → Prop) (s₁ : Shared) (Q : Flow → Shared → Prop) (f : Flow) (s₂ : Shared) : Prop :=
  match f with
  | .ret v => Q (.ret v) s₂
  | .brk => Q .next s₂
  | _ => ∃ h' tk' m' led, s₂ = { s₁ with heap := h', toks := tk' } ∧ Fr h₀ L h' m' ∧ News h₀ L h' ((I, o) :: led) ∧ (∀ p ∈ led, p.1 ≠ I) ∧ G led ∧ ∀ y, y ≠ x → stored.contains y = false → m' y = m₀ y
theorem fr_stored {L : Addr} {h : Heap} {stored : List Str} {m₀ m₁ : Str → Option Value} {v : Value} (hJ : ∀ y, y ≠ x → stored.contains y = false → m₁ y = m₀ y) (F : Fr h₀ L h (fun y => if y = x then some v else m₁ y)) :
    Fr h₀ L h (fun y => if y = x then some v else if stored.contains y then m₁ y else m₀ y) := by
  have e : (fun y => if y = x then some v else m₁ y) = fun y => if y = x then some v else if stored.contains y then m₁ y else m₀ y := by
    funext y
    by_cases h1 : y = x
    · simp [h1]
    · simp only [if_neg h1]
      cases h2 : stored.contains y with
      | true => simp
      | false => simp only [Bool.false_eq_true, if_false]; exact hJ y h1 h2
  rw [← e]; exact F
theorem fr_done {L : Addr} {h : Heap} {stored : List Str} {m₀ m' : Str → Option Value} (hJ : ∀ y, y ≠ x → stored.contains y = false → m' y = m₀ y) (F : Fr h₀ L h m') :
    Fr h₀ L h (fun y => if y = x then m' y else if stored.contains y then m' y else m₀ y) := by
  have e : (fun y => if y = x then m' y else if stored.contains y then m' y else m₀ y) = m' := by
    funext y
    by_cases h1 : y = x
    · simp [h1]
    · simp only [if_neg h1]
      cases h2 : stored.contains y with
      | true => simp
      | false => simp only [Bool.false_eq_true, if_false]; exact (hJ y h1 h2).symm
  rw [e]; exact F
theorem loopG {I : Addr} {n : Nat} {P : Nat → Value → Prop} {St : Nat → Heap → Prop} {m₀ : Str → Option Value} {news : List (Addr × Obj)} (stored : List Str) (G : Nat → List (Addr × Obj) → Prop)
    (W : Walks prog w A I [I] [I] n P St) (hlive : ∀ i h, St i h → ∃ o, h.get? I = some o) (hLf : env.locals ≠ I) (hI0 : h₀.get? I = none) (hnw : ∀ p ∈ news, p.1 ≠ I) (hst : St 0 s.heap) (F : Fr h₀ env.locals s.heap m₀) (N : News h₀ env.locals s.heap news) (hG : G 0 news)
    (turn : ∀ i v (u : Str → Option Value) h tk o led, i < n → P i v → G i led → (∀ p ∈ led, p.1 ≠ I) → Fr h₀ env.locals h (fun y => if y = x then some v else if stored.contains y then u y else m₀ y) → News h₀ env.locals h ((I, o) :: led) →
      wpAny (model prog w) A (execs body env) (TurnG h₀ env.locals x stored m₀ I o (G (i + 1)) { s with heap := h, toks := tk } Q) E { s with heap := h, toks := tk })
    (done : ∀ (u : Str → Option Value) h tk led, G n led → Fr h₀ env.locals h (fun y => if y = x then u y else if stored.contains y then u y else m₀ y) → News h₀ env.locals h led → Q .next { s with heap := h, toks := tk }) :
    LoopAtV prog w A h₀ env x body Q E (.ref I) s := by
  let J : Nat → (Str → Option Value) → List (Addr × Obj) → Prop := fun i m₁ news₁ => G i news₁ ∧ ∀ y, y ≠ x → stored.contains y = false → m₁ y = m₀ y
  refine ⟨I, [I], [I], n, P, St, m₀, news, J, rfl, W, by simpa using hLf, by simpa using hI0, by simpa using hnw, hst, F, N, ⟨hG, fun _ _ _ => rfl⟩, ?_, ?_⟩
  · rintro i v m₁ news₁ s₁ own ⟨hh', tk', rfl⟩ hin hP ⟨hGi, hJ⟩ hoff hown1 hown2 hown3 hst1 F₁ N₁
    obtain ⟨o, ho⟩ := hlive _ _ hst1
    have hio : (I, o) ∈ own := hown3 I (by simp) hI0 o ho
    have hoff' : ∀ p ∈ news₁, p.1 ≠ I := fun p hp => by simpa using hoff p hp
    have hall : ∀ p ∈ own, p = (I, o) := fun p hp => by
      have h1 : p.1 = I := by simpa using hown1 p hp
      have h2 := hown2 p hp
      rw [h1] at h2
      have : some p.2 = some o := h2.symm.trans ho
      obtain ⟨a, b⟩ := p
      simp only at h1 this
      rw [h1, Option.some.inj this]
    have N₂ : News h₀ env.locals hh' ((I, o) :: news₁) := fun p hp => by
      rcases List.mem_cons.mp hp with rfl | hp
      · exact N₁ _ (List.mem_append_left _ hio)
      · exact N₁ _ (List.mem_append_right _ hp)
    refine wpAny_mono (turn i v m₁ hh' tk' o news₁ hin hP hGi hoff' (fr_stored hJ F₁) N₂) (fun f s₂ p => ?_) fun _ _ e => e
    have fin : (∃ h' tk' m' led, s₂ = { { s with heap := hh', toks := tk' } with heap := h', toks := tk' } ∧ Fr h₀ env.locals h' m' ∧ News h₀ env.locals h' ((I, o) :: led) ∧ (∀ p ∈ led, p.1 ≠ I) ∧ G (i + 1) led ∧ ∀ y, y ≠ x → stored.contains y = false → m' y = m₀ y) →
        LoopStepU h₀ env.locals [I] own (J (i + 1)) { s with heap := hh', toks := tk' } .next s₂ := by
      rintro ⟨h', tk, m', led, e, F', N', ha, hg, hm⟩
      refine ⟨rfl, h', tk, m', led, e, F', fun p hp => ?_, by simpa using ha, hg, hm⟩
      rcases List.mem_append.mp hp with hp | hp
      · rw [hall p hp]; exact N' _ (List.mem_cons_self)
      · exact N' _ (List.mem_cons_of_mem _ hp)
    cases f with
    | ret v => exact .ret p
    | brk => exact .brk p
    | next => exact .next (fin p)
    | cont => exact .cont (fin p)
  · rintro h' tk m' news' F' N' _ ⟨hg, hJ⟩
    exact done m' h' tk news' hg (fr_done hJ F') N'
theorem rangeG {r : Addr} {a₀ b₀ : Int} {t₀ u₀ v₀ : Tok} {n : Nat} {m₀ : Str → Option Value} {news : List (Addr × Obj)} (stored : List Str) (G : Nat → List (Addr × Obj) → Prop)
    (hh : A.handled = none) (hr : IsRange s.heap r a₀ b₀ 1 t₀ u₀ v₀) (hsmall : Builtin.Range.small a₀ b₀ 1 = true) (hn : Builtin.Range.rangeSize a₀ b₀ 1 = (n : Int)) (F : Fr h₀ env.locals s.heap m₀) (N : News h₀ env.locals s.heap news) (hG : G 0 news)
    (turn : ∀ (i : Nat) t (u : Str → Option Value) h tk I o led, i < n → G i led → (∀ p ∈ led, p.1 ≠ I) → Fr h₀ env.locals h (fun y => if y = x then some (.int (a₀ + (i : Int)) t) else if stored.contains y then u y else m₀ y) → News h₀ env.locals h ((I, o) :: led) →
      wpAny (model prog w) A (execs body env) (TurnG h₀ env.locals x stored m₀ I o (G (i + 1)) { s with heap := h, toks := tk } Q) E { s with heap := h, toks := tk })
    (done : ∀ (u : Str → Option Value) h tk led, G n led → Fr h₀ env.locals h (fun y => if y = x then u y else if stored.contains y then u y else m₀ y) → News h₀ env.locals h led → Q .next { s with heap := h, toks := tk }) :
    wpAny (model prog w) A (pyIter (.ref r)) (fun it s₂ => LoopAtV prog w A h₀ env x body Q E it s₂) E s := by
  refine wpAny_pyIter_range hr hsmall ?_
  have W : Walks prog w A s.heap.objs.size [s.heap.objs.size] [s.heap.objs.size] n (fun i v => i < n ∧ ∃ t, v = .int (a₀ + i * 1) t)
      (fun i h => IsRangeIter h s.heap.objs.size (a₀ + (i : Nat) * 1) ((n : Int) - (i : Nat)) 1) := (Walks.range hh _ a₀ 1 n).bound
  refine loopG stored G W (fun i h st => ⟨_, st⟩) (Nat.ne_of_lt F.ns.lt) (next_is_new F) (fun p hp => Nat.ne_of_lt (Heap.lt_size (N p hp).1)) (by show IsRangeIter _ _ _ _ _; rw [hn]; simpa using Heap.get?_push_size _ rfl) (F.push _) (fun p hp => ⟨Heap.get?_push_of_some _ (N p hp).1, (N p hp).2⟩) hG ?_ done
  rintro i v u h tk o led hi ⟨_, t, rfl⟩ hg hoff F₁ N₁
  have := turn i t u h tk _ o led hi hg hoff (by simpa only [Int.mul_one] using F₁) N₁
  exact this
end
end Mine
end
section
open PySem PySem.W PyProof.Rows
namespace Mine
theorem vals_inj {m n : Nat} (hm : m < 32) (hn : n < 32) (h : vals m = vals n) : m = n := by
  apply Nat.eq_of_testBit_eq
  intro i
  by_cases hi : i < 5
  · have h1 : i ∈ vals m ↔ i ∈ vals n := by rw [h]
    rw [mem_vals, mem_vals] at h1
    simp only [hi, true_and] at h1
    cases a : m.testBit i <;> cases b : n.testBit i <;> simp_all
  · rw [testBit_big hm (by omega), testBit_big hn (by omega)]
theorem IsM.inj {bt : Bool} {m n : Nat} {o : Obj} (h1 : IsM bt m o) (h2 : IsM bt n o) : m = n := by
  obtain ⟨hm, tk, ep, k, f, l, mv, rfl, _⟩ := h1
  obtain ⟨hn, tk', ep', k', f', l', mv', e, _⟩ := h2
  simp only [setO, tab, Obj.mk.injEq, Data.set.injEq, SetTable.mk.injEq] at e
  have : (vals m).toArray = (vals n).toArray := e.2.2.1.2.2.2.1
  exact vals_inj hm hn (by simpa using this)
noncomputable def SetAt (bt : Bool) (news : List (Addr × Obj)) (v : Value) (m : Nat) : Prop := ∃ a o, v = .ref a ∧ (a, o) ∈ news ∧ IsM bt m o
noncomputable def SetsAt (bt : Bool) (news : List (Addr × Obj)) (v : Value) (ms : List Nat) : Prop := ∃ a its n, v = .ref a ∧ (a, listOf its n) ∈ news ∧ its.size = ms.length ∧ ∀ (i : Nat) (x : Value) (m : Nat), its[i]? = some x → ms[i]? = some m → SetAt bt news x m
theorem SetAt.mono {bt : Bool} {news news' : List (Addr × Obj)} {v : Value} {m : Nat} (h : SetAt bt news v m) (hs : ∀ p ∈ news, p ∈ news') : SetAt bt news' v m := by
  obtain ⟨a, o, e, hm, hi⟩ := h
  exact ⟨a, o, e, hs _ hm, hi⟩
theorem SetsAt.mono {bt : Bool} {news news' : List (Addr × Obj)} {v : Value} {ms : List Nat} (h : SetsAt bt news v ms) (hs : ∀ p ∈ news, p ∈ news') : SetsAt bt news' v ms := by
  obtain ⟨a, its, n, e, hm, hz, hi⟩ := h
  exact ⟨a, its, n, e, hs _ hm, hz, fun i x m h1 h2 => (hi i x m h1 h2).mono hs⟩
noncomputable abbrev loose : List Str := looseW VH loose0
end Mine
end
section
open PySem PySem.W PyProof.Rows
namespace Mine
theorem fr_args1 {g h : Heap} {L : Addr} (x : Str) {v : Value} (F : Fr g L h (fun y => List.lookup y [(x, v)])) : Fr g L h (fun y => if y = x then some v else none) := by
  have e : (fun y => List.lookup y [(x, v)]) = fun y => if y = x then some v else none := by
    funext y
    rw [List.lookup_cons]
    by_cases h : y = x
    · simp [h]
    · have : (y == x) = false := by simpa using h
      simp [h, this]
  rw [← e]; exact F
theorem fr_args2 {g h : Heap} {L : Addr} (x x' : Str) {v v' : Value} (F : Fr g L h (fun y => List.lookup y [(x, v), (x', v')])) : Fr g L h (fun y => if y = x then some v else if y = x' then some v' else none) := by
  have e : (fun y => List.lookup y [(x, v), (x', v')]) = fun y => if y = x then some v else if y = x' then some v' else none := by
    funext y
    rw [List.lookup_cons, List.lookup_cons]
    by_cases h : y = x
    · simp [h]
    · have e1 : (y == x) = false := by simpa using h
      rw [e1]
      by_cases h' : y = x'
      · have e2 : (y == x') = true := by simpa using h'
        simp [h, h', e2]
        intro q; exact absurd (h'.trans q) h
      · have : (y == x') = false := by simpa using h'
        simp [h, h', this]
  rw [← e]; exact F
section
variable {prog : Program} {w : World} {A : Around} {E : Value → Shared → Prop} {s : Shared} {h₀ : Heap} {L : Addr} {mm : Str → Option Value} {led led0 led1 : List (Addr × Obj)}
theorem News.sub {h : Heap} (N : News h₀ L h led) (hs : ∀ p ∈ led0, p ∈ led) : News h₀ L h led0 := fun p hp => N p (hs p hp)
theorem grow_N {h' : Heap} {o' : Obj} (F : Fr h₀ L s.heap mm) (N : News h₀ L s.heap led) (hk : ∀ c o, s.heap.get? c = some o → h'.get? c = some o) {c : Addr} (hc : s.heap.objs.size ≤ c) (ho : h'.get? c = some o') :
    Fr h₀ L h' mm ∧ News h₀ L h' ((c, o') :: led) := by
  refine ⟨F.kept hk, N.kept_cons F hk hc ho⟩
theorem and_N {a b : Addr} {oa ob : Obj} {m n : Nat} {Q : Value → Shared → Prop} (F : Fr h₀ L s.heap mm) (N : News h₀ L s.heap led) (ha : (a, oa) ∈ led0) (hs0 : ∀ p ∈ led0, p ∈ led) (hMa : IsM (byT w) m oa) (hb : (b, ob) ∈ led1) (hs1 : ∀ p ∈ led1, p ∈ led) (hMb : IsM (byT w) n ob)
    (h : ∀ h' c o', Fr h₀ L h' mm → News h₀ L h' ((c, o') :: led) → IsM (byT w) (m &&& n) o' → (∀ p ∈ led, p.1 ≠ c) → Q (.ref c) { s with heap := h' }) : wpAny (model prog w) A (binaryOp .BitAnd (.ref a) (.ref b)) Q E s := by
  have ga := (N _ (hs0 _ ha)).1
  have gb := (N _ (hs1 _ hb)).1
  refine opAnd ga hMa gb hMb (fun e => ?_) fun h' o' hk ho hM => ?_
  · subst e; have e2 : oa = ob := Option.some.inj (ga.symm.trans gb); subst e2; exact hMa.inj hMb
  · obtain ⟨F', N'⟩ := grow_N F N hk (Nat.le_refl _) ho
    exact h h' _ o' F' N' hM fun p hp => Nat.ne_of_lt (Heap.lt_size (N p hp).1)
theorem or_N {a b : Addr} {oa ob : Obj} {m n : Nat} {Q : Value → Shared → Prop} (F : Fr h₀ L s.heap mm) (N : News h₀ L s.heap led) (ha : (a, oa) ∈ led0) (hs0 : ∀ p ∈ led0, p ∈ led) (hMa : IsM (byT w) m oa) (hb : (b, ob) ∈ led1) (hs1 : ∀ p ∈ led1, p ∈ led) (hMb : IsM (byT w) n ob)
    (h : ∀ h' c o', Fr h₀ L h' mm → News h₀ L h' ((c, o') :: led) → IsM (byT w) (m ||| n) o' → (∀ p ∈ led, p.1 ≠ c) → Q (.ref c) { s with heap := h' }) : wpAny (model prog w) A (binaryOp .BitOr (.ref a) (.ref b)) Q E s := by
  have ga := (N _ (hs0 _ ha)).1
  have gb := (N _ (hs1 _ hb)).1
  refine opOr ga hMa gb hMb (fun e => ?_) fun h' o' hk ho hM => ?_
  · subst e; have e2 : oa = ob := Option.some.inj (ga.symm.trans gb); subst e2; exact hMa.inj hMb
  · obtain ⟨F', N'⟩ := grow_N F N hk (Nat.le_refl _) ho
    exact h h' _ o' F' N' hM fun p hp => Nat.ne_of_lt (Heap.lt_size (N p hp).1)
theorem set0_N {Q : Value → Shared → Prop} (F : Fr h₀ L s.heap mm) (N : News h₀ L s.heap led)
    (h : ∀ h' c o', Fr h₀ L h' mm → News h₀ L h' ((c, o') :: led) → IsM (byT w) 0 o' → (∀ p ∈ led, p.1 ≠ c) → Q (.ref c) { s with heap := h' }) : wpAny (model prog w) A (call (.type "set") []) Q E s := by
  refine callSet0 fun h' o' e ho hM => ?_
  obtain ⟨F', N'⟩ := grow_N F N (fun c o hc => by rw [e]; exact Heap.get?_push_of_some _ hc) (Nat.le_refl _) ho
  exact h h' _ o' F' N' hM fun p hp => Nat.ne_of_lt (Heap.lt_size (N p hp).1)
theorem ne_N {a b : Addr} {oa ob : Obj} {m : Nat} {Q : Value → Shared → Prop} (N : News h₀ L s.heap led) (ha : (a, oa) ∈ led) (hMa : IsM (byT w) m oa) (hb : (b, ob) ∈ led) (hMb : IsM (byT w) 0 ob) (hu : A.units < cLine)
    (h : Q (.bool (decide (m ≠ 0))) s) : wpAny (model prog w) A (compareOp .NotEq (.ref a) (.ref b)) Q E s :=
  opNeNone (N _ ha).1 hMa (N _ hb).1 hMb hu h
noncomputable def Cut (h₀ : Heap) (L : Addr) (mm : Str → Option Value) (led : List (Addr × Obj)) (s : Shared) (val v : Value) (s' : Shared) : Prop := ∃ h' tk', v = val ∧ s' = { s with heap := h', toks := tk' } ∧ Fr h₀ L h' mm ∧ News h₀ L h' led
theorem cut {M : Model} {t : Sem Value} {Q : Value → Shared → Prop} (F : Fr h₀ L s.heap mm) (N : News h₀ L s.heap led) (val : Value)
    (h1 : wpAny M A t (Cut h₀ L mm led s val) E s)
    (h2 : ∀ h' tk', Fr h₀ L h' mm → News h₀ L h' led → Q val { s with heap := h', toks := tk' }) : wpAny M A t Q E s :=
  wpAny_mono h1 (fun _ _ ⟨h', tk', e1, e2, F', N'⟩ => by subst e1; subst e2; exact h2 h' tk' F' N') fun _ _ e => e
theorem Cut.intro {h' : Heap} {tk' : Tok} {val v : Value} (e : v = val) (F' : Fr h₀ L h' mm) (N' : News h₀ L h' led0) (hs : ∀ p ∈ led, p ∈ led0) : Cut h₀ L mm led s val v { s with heap := h', toks := tk' } :=
  ⟨h', tk', e, rfl, F', News.sub N' hs⟩
theorem range1_N {n : Int} {t : Tok} {Q : Value → Shared → Prop} (F : Fr h₀ L s.heap mm) (N : News h₀ L s.heap led)
    (h : ∀ h' r t1 t3 tk', IsRange h' r 0 n 1 t1 t t3 → Fr h₀ L h' mm → News h₀ L h' led → Q (.ref r) { s with heap := h', toks := tk' }) : wpAny (model prog w) A (call (.type "range") [.int n t]) Q E s :=
  call_range_1 (h _ _ _ _ _ (IsRange.new ..) (F.push _) fun p hp => ⟨Heap.get?_push_of_some _ (N p hp).1, (N p hp).2⟩)
theorem range2_N {a b : Int} {t u : Tok} {Q : Value → Shared → Prop} (F : Fr h₀ L s.heap mm) (N : News h₀ L s.heap led)
    (h : ∀ h' r t3 tk', IsRange h' r a b 1 t u t3 → Fr h₀ L h' mm → News h₀ L h' led → Q (.ref r) { s with heap := h', toks := tk' }) : wpAny (model prog w) A (call (.type "range") [.int a t, .int b u]) Q E s :=
  call_range_2 (h _ _ _ _ (IsRange.new ..) (F.push _) fun p hp => ⟨Heap.get?_push_of_some _ (N p hp).1, (N p hp).2⟩)
theorem len_N {va : Addr} {ms : List Nat} {Q : Value → Shared → Prop} (N : News h₀ L s.heap led) (hV : SetsAt (byT w) led0 (.ref va) ms) (hs0 : ∀ p ∈ led0, p ∈ led)
    (hsm : ms.length ≤ 64) (h : Q (.int (ms.length : Nat) (s.toks + 1)) { s with toks := s.toks + 1 + 1 }) : wpAny (model prog w) A (call (.builtin "len") [.ref va]) Q E s := by
  obtain ⟨a, its, n, e, hm, hz, hi⟩ := hV
  cases e
  have hl : s.heap.IsList va its := ⟨_, (N _ (hs0 _ hm)).1, rfl, n, rfl⟩
  refine Calls.call_len_list hl (by omega) ?_
  rw [hz]
  exact h
theorem item_N {value slice : PySem.Expr} {va : Addr} {ms : List Nat} {k : Int} {u : Tok} {Q : Value → Shared → Prop} (N : News h₀ L s.heap led) (hV : SetsAt (byT w) led0 (.ref va) ms) (hs0 : ∀ p ∈ led0, p ∈ led)
    (hlo : 0 ≤ k) (hhi : k < (ms.length : Int)) (hsm : ms.length ≤ 64) (h : ∀ a o, (a, o) ∈ led → IsM (byT w) (ms.getD k.toNat 0) o → Q (.ref a) s)
    (hs : subscripted slice false (.ref va) (.int k u) = operate [.ref va, .int k u] (getItem (.ref va) (.int k u)) := by with_unfolding_all rfl) :
    wpAny (model prog w) A (subscriptTail value slice (.ref va) (.int k u)) Q E s := by
  obtain ⟨a, its, n, e, hm, hz, hi⟩ := hV
  cases e
  have hl : s.heap.IsList va its.toList.toArray := ⟨_, (N _ (hs0 _ hm)).1, rfl, n, by simp [PySem.W.listOf]⟩
  have hkn : k.toNat < ms.length := by omega
  have hx : its[k.toNat]? = some (its[k.toNat]'(by omega)) := Array.getElem?_eq_getElem _
  have hmk : ms[k.toNat]? = some (ms.getD k.toNat 0) := by simp [List.getD, hkn]
  obtain ⟨a', o', e1, h1, h2⟩ := hi k.toNat _ _ hx hmk
  refine tail_any hl.typeIs PySem.slot_list_getitem.lookup (wpAny_getItem_list hl hlo (by omega) (x := .ref a') (by rw [List.getElem?_toArray, Array.getElem?_toList, hx, e1]) ?_) hs
  exact h a' o' (hs0 _ h1) h2
end
end Mine
end
section
open PySem PySem.W PyProof.Rows
namespace Mine
noncomputable abbrev tupO (its : Array Value) (n : Nat) : Obj := { cls := .type "tuple", data := .seq its n }
noncomputable def PairAt (news : List (Addr × Obj)) (x : Value) (p : Int × Nat) : Prop := ∃ b u t n, x = .ref b ∧ (b, tupO #[.int p.1 u, .int ((p.2 : Nat) : Int) t] n) ∈ news
noncomputable def KerAt (news : List (Addr × Obj)) (v : Value) (ps : List (Int × Nat)) : Prop := ∃ a its n, v = .ref a ∧ (a, tupO its n) ∈ news ∧ its.size = ps.length ∧ ∀ (i : Nat) (x : Value) (p : Int × Nat), its[i]? = some x → ps[i]? = some p → PairAt news x p
theorem PairAt.mono {news news' : List (Addr × Obj)} {x : Value} {p : Int × Nat} (h : PairAt news x p) (hs : ∀ q ∈ news, q ∈ news') : PairAt news' x p := by
  obtain ⟨b, u, t, n, e, hm⟩ := h
  exact ⟨b, u, t, n, e, hs _ hm⟩
theorem KerAt.mono {news news' : List (Addr × Obj)} {v : Value} {ps : List (Int × Nat)} (h : KerAt news v ps) (hs : ∀ q ∈ news, q ∈ news') : KerAt news' v ps := by
  obtain ⟨a, its, n, e, hm, hz, hi⟩ := h
  exact ⟨a, its, n, e, hs _ hm, hz, fun i x p h1 h2 => (hi i x p h1 h2).mono hs⟩
section
variable {prog : Program} {w : World} {A : Around} {E : Value → Shared → Prop} {s : Shared} {h₀ : Heap} {L : Addr} {mm : Str → Option Value} {led led0 led1 : List (Addr × Obj)}
theorem lenK_N {va : Addr} {ps : List (Int × Nat)} {Q : Value → Shared → Prop} (N : News h₀ L s.heap led) (hV : KerAt led0 (.ref va) ps) (hs0 : ∀ p ∈ led0, p ∈ led)
    (hsm : ps.length ≤ 64) (h : Q (.int (ps.length : Nat) (s.toks + 1)) { s with toks := s.toks + 1 + 1 }) : wpAny (model prog w) A (call (.builtin "len") [.ref va]) Q E s := by
  obtain ⟨a, its, n, e, hm, hz, hi⟩ := hV
  cases e
  refine P.len_tuple (n := n) (items := its) (N _ (hs0 _ hm)).1 (by omega) ?_
  rw [hz]
  exact h
theorem itemK_N {value slice : PySem.Expr} {va : Addr} {ps : List (Int × Nat)} {k : Int} {u : Tok} {Q : Value → Shared → Prop} (N : News h₀ L s.heap led) (hV : KerAt led0 (.ref va) ps) (hs0 : ∀ p ∈ led0, p ∈ led)
    (hlo : 0 ≤ k) (hhi : k < (ps.length : Int)) (hsm : ps.length ≤ 64) (h : ∀ b x y n, (b, tupO #[.int (ps.getD k.toNat (0, 0)).1 x, .int (((ps.getD k.toNat (0, 0)).2 : Nat) : Int) y] n) ∈ led → Q (.ref b) s)
    (hs : subscripted slice false (.ref va) (.int k u) = operate [.ref va, .int k u] (getItem (.ref va) (.int k u)) := by with_unfolding_all rfl) :
    wpAny (model prog w) A (subscriptTail value slice (.ref va) (.int k u)) Q E s := by
  obtain ⟨a, its, n, e, hm, hz, hi⟩ := hV
  cases e
  have ht : IsTup s.heap va its.toList.toArray := ⟨_, (N _ (hs0 _ hm)).1, rfl, n, by simp⟩
  have hkn : k.toNat < ps.length := by omega
  have hx : its[k.toNat]? = some (its[k.toNat]'(by omega)) := Array.getElem?_eq_getElem _
  have hmk : ps[k.toNat]? = some (ps.getD k.toNat (0, 0)) := by simp [List.getD, hkn]
  obtain ⟨b, x, y, c, e1, h1⟩ := hi k.toNat _ _ hx hmk
  refine item_tupleT (l := its.toList) (j := k.toNat) (x := .ref b) ht (by omega) (by omega) ?_ ?_ ?_ hs
  · rw [Array.length_toList, hz]; unfold seqIndex?; simp; omega
  · rw [Array.getElem?_toList, hx, e1]
  · exact h b x y c (hs0 _ h1)
theorem item1_N {value slice : PySem.Expr} {b : Addr} {c d : Int} {x y u : Tok} {n : Nat} {Q : Value → Shared → Prop} (N : News h₀ L s.heap led) (hm : (b, tupO #[.int c x, .int d y] n) ∈ led0) (hs0 : ∀ p ∈ led0, p ∈ led) (h : Q (.int d y) s)
    (hs : subscripted slice false (.ref b) (.int 1 u) = operate [.ref b, .int 1 u] (getItem (.ref b) (.int 1 u)) := by with_unfolding_all rfl) :
    wpAny (model prog w) A (subscriptTail value slice (.ref b) (.int 1 u)) Q E s :=
  item_tupleT (l := [.int c x, .int d y]) (j := 1) (x := .int d y) ⟨_, (N _ (hs0 _ hm)).1, rfl, n, rfl⟩ (by decide) (by decide) rfl rfl h hs
theorem andNat {m n : Nat} {t u : Tok} {Q : Value → Shared → Prop} (h : Q (.int ((m &&& n : Nat) : Int) s.toks) { s with toks := s.toks + 1 }) : wpAny (model prog w) A (binaryOp .BitAnd (.int (m : Int) t) (.int (n : Int) u)) Q E s := by
  refine and_int ?_
  have : Builtin.bitAnd (m : Int) (n : Int) = ((m &&& n : Nat) : Int) := by simp [Builtin.bitAnd]
  rw [this]; exact h
theorem orNat {m n : Nat} {t u : Tok} {Q : Value → Shared → Prop} (h : Q (.int ((m ||| n : Nat) : Int) s.toks) { s with toks := s.toks + 1 }) : wpAny (model prog w) A (binaryOp .BitOr (.int (m : Int) t) (.int (n : Int) u)) Q E s := by
  refine or_int ?_
  have : Builtin.bitOr (m : Int) (n : Int) = ((m ||| n : Nat) : Int) := by
    have h1 : Builtin.bitNot (m : Int) = -(m : Int) - 1 := rfl
    have h2 : Builtin.bitNot (n : Int) = -(n : Int) - 1 := rfl
    unfold Builtin.bitOr
    rw [h1, h2]
    have g1 : decide (0 ≤ -(m : Int) - 1) = false := by simp; omega
    have g2 : decide (0 ≤ -(n : Int) - 1) = false := by simp; omega
    unfold Builtin.bitAnd
    rw [g1, g2]
    dsimp only
    have k1 : (Builtin.bitNot (-(m : Int) - 1)).toNat = m := by show (-(-(m : Int) - 1) - 1).toNat = m; omega
    have k2 : (Builtin.bitNot (-(n : Int) - 1)).toNat = n := by show (-(-(n : Int) - 1) - 1).toNat = n; omega
    rw [k1, k2]
    show -(-(((m ||| n : Nat) : Int)) - 1) - 1 = _
    omega
  rw [this]; exact h
end
end Mine
end
section
open PySem PySem.W PyProof.Rows
namespace Mine
section
variable {prog : Program} {w : World} {A : Around} {h₀ : Heap} {L : Addr} {m : Str → Option Value} {env : Env} {elt ct : PySem.Expr} {x : Str} {scope : Scope} {cl : List (Str × Addr)} {s : Shared} {S : List (Addr × Obj) → Prop} {P : Nat → Value → Prop} {Fin : List Value → List (Addr × Obj) → Prop} {news : List (Addr × Obj)}
theorem compRest {n : Nat} (G : Nat → List Value → List (Addr × Obj) → Prop) (h0 : G 0 [] news)
    (turn : ∀ i ys led v I oI C oC D m₂ h tk (E' : Value → Shared → Prop), i < n → G i ys led → P i v → LCg.NsObj oC m₂ → m₂ x = some v → Fr h₀ L h m → News h₀ L h ((I, oI) :: (C, oC) :: (D, LCg.lst ys) :: led) → LCg.Off3 I C D led → ((@Ne Nat I C) ∧ (@Ne Nat I D) ∧ (@Ne Nat C D)) →
      wpAny (model prog w) A (eval elt (compEnvC scope cl C env)) (LCg.CompEnd h₀ L m { s with heap := h, toks := tk } I oI C oC D (LCg.lst ys) S (fun y led' => G (i + 1) (ys ++ [y]) led')) E' { s with heap := h, toks := tk })
    (fin : ∀ ys led, G n ys led → Fin ys led) : LCg.CompRest prog w A h₀ L m env elt x scope cl s S P Fin n 0 [] news := by
  have key : ∀ (j i : Nat) (ys : List Value) (led : List (Addr × Obj)), i + j = n → G i ys led → LCg.CompRest prog w A h₀ L m env elt x scope cl s S P Fin j i ys led := by
    intro j
    induction j with
    | zero => intro i ys led hi hG; have : i = n := by omega
              subst this; exact LCg.CompRest.zero (fin ys led hG)
    | succ j ih =>
      intro i ys led hi hG
      refine LCg.CompRest.succ ?_
      intro v I oI C oC D m₂ h tk E' hv hC hx F N off ne
      refine wpAny_mono (turn i ys led v I oI C oC D m₂ h tk E' (by omega) hG hv hC hx F N off ne) (fun y s₃ hr => ?_) fun _ _ e => e
      obtain ⟨h', tk', nw, e, F', N', off', hS, hn⟩ := hr
      exact ⟨h', tk', nw, e, F', N', off', hS, ih (i + 1) _ nw (by omega) hn⟩
  exact key n 0 [] news (by omega) h0
theorem compRestT {n : Nat} (G : Nat → List Value → List (Addr × Obj) → Prop) (h0 : G 0 [] news)
    (turn : ∀ i ys led v I oI C oC D m₂ h tk (E' : Value → Shared → Prop), i < n → G i ys led → P i v → LCg.NsObj oC m₂ → m₂ x = some v → Fr h₀ L h m → News h₀ L h ((I, oI) :: (C, oC) :: (D, LCg.lst ys) :: led) → LCg.Off3 I C D led → ((@Ne Nat I C) ∧ (@Ne Nat I D) ∧ (@Ne Nat C D)) →
      wpAny (model prog w) A (isTrue ct (compEnvC scope cl C env) (eval ct (compEnvC scope cl C env))) (fun ok s' => if ok = true then
        wpAny (model prog w) A (eval elt (compEnvC scope cl C env)) (LCg.CompEnd h₀ L m { s with heap := h, toks := tk } I oI C oC D (LCg.lst ys) S (fun y led' => G (i + 1) (ys ++ [y]) led')) E' s'
        else LCg.CompEnd h₀ L m { s with heap := h, toks := tk } I oI C oC D (LCg.lst ys) S (fun _ led' => G (i + 1) ys led') Value.none s') E' { s with heap := h, toks := tk })
    (fin : ∀ ys led, G n ys led → Fin ys led) : LCt.CompRestT prog w A h₀ L m env ct elt x scope cl s S P Fin n 0 [] news := by
  have key : ∀ (j i : Nat) (ys : List Value) (led : List (Addr × Obj)), i + j = n → G i ys led → LCt.CompRestT prog w A h₀ L m env ct elt x scope cl s S P Fin j i ys led := by
    intro j
    induction j with
    | zero => intro i ys led hi hG; have : i = n := by omega
              subst this; exact LCt.CompRestT.zero (fin ys led hG)
    | succ j ih =>
      intro i ys led hi hG
      refine LCt.CompRestT.succ ?_
      intro v I oI C oC D m₂ h tk E' hv hC hx F N off ne
      refine wpAny_mono (turn i ys led v I oI C oC D m₂ h tk E' (by omega) hG hv hC hx F N off ne) (fun b s₂ hq => ?_) fun _ _ e => e
      cases b with
      | true =>
        simp only [if_true] at hq ⊢
        refine wpAny_mono hq (fun y s₃ hr => ?_) fun _ _ e => e
        obtain ⟨h', tk', nw, e, F', N', off', hS, hn⟩ := hr
        exact ⟨h', tk', nw, e, F', N', off', hS, ih (i + 1) _ nw (by omega) hn⟩
      | false =>
        simp only [Bool.false_eq_true, if_false] at hq ⊢
        obtain ⟨h', tk', nw, e, F', N', off', hS, hn⟩ := hq
        exact ⟨h', tk', nw, e, F', N', off', hS, ih (i + 1) _ nw (by omega) hn⟩
  exact key n 0 [] news (by omega) h0
end
end Mine
end
section
open PySem PySem.W PyProof.Rows
namespace Mine
noncomputable def sharesB (ms : List Nat) : Bool := (List.range ms.length).any fun i => (List.range ms.length).any fun j => decide (i < j) && (ms.getD i 0 &&& ms.getD j 0 != 0)
noncomputable def Apart (ms : List Nat) (i : Nat) : Prop := ∀ i' < i, ∀ j, i' < j → j < ms.length → ms.getD i' 0 &&& ms.getD j 0 = 0
theorem sharesB_false {ms : List Nat} (h : Apart ms ms.length) : sharesB ms = false := by
  rw [sharesB, List.any_eq_false]
  intro i hi
  rw [Bool.not_eq_true, List.any_eq_false]
  intro j hj
  simp only [List.mem_range] at hi hj
  by_cases hij : i < j
  · rw [h i hi j hij hj]; simp
  · simp [hij]
theorem sharesB_true {ms : List Nat} {i j : Nat} (hij : i < j) (hj : j < ms.length) (h : ms.getD i 0 &&& ms.getD j 0 ≠ 0) : sharesB ms = true := by
  rw [sharesB, List.any_eq_true]
  refine ⟨i, List.mem_range.mpr (by omega), ?_⟩
  rw [List.any_eq_true]
  exact ⟨j, List.mem_range.mpr hj, by rw [decide_eq_true hij]; simpa using h⟩
noncomputable def crossB (ms ns : List Nat) (i j : Nat) : Bool := decide (ms.getD i 0 &&& ns.getD j 0 ≠ 0) || decide (ms.getD j 0 &&& ns.getD i 0 ≠ 0)
noncomputable def shareB (ms ns : List Nat) (i j : Nat) : Bool := decide (ms.getD i 0 &&& ms.getD j 0 ≠ 0) || decide (ns.getD i 0 &&& ns.getD j 0 ≠ 0)
noncomputable def badB (ms ns : List Nat) (i j : Nat) : Bool := crossB ms ns i j && !shareB ms ns i j
noncomputable def goesB (ms ns : List Nat) : Bool := !((List.range ms.length).any fun i => (List.range ms.length).any fun j => decide (i < j) && badB ms ns i j)
noncomputable def Fine (ms ns : List Nat) (i : Nat) : Prop := ∀ i' < i, ∀ j, i' < j → j < ms.length → badB ms ns i' j = false
theorem goesB_true {ms ns : List Nat} (h : Fine ms ns ms.length) : goesB ms ns = true := by
  rw [goesB, Bool.not_eq_true', List.any_eq_false]
  intro i hi
  rw [Bool.not_eq_true, List.any_eq_false]
  intro j hj
  simp only [List.mem_range] at hi hj
  by_cases hij : i < j
  · rw [h i hi j hij hj]; simp
  · simp [hij]
theorem goesB_false {ms ns : List Nat} {i j : Nat} (hij : i < j) (hj : j < ms.length) (h : badB ms ns i j = true) : goesB ms ns = false := by
  rw [goesB, Bool.not_eq_false', List.any_eq_true]
  refine ⟨i, List.mem_range.mpr (by omega), ?_⟩
  rw [List.any_eq_true]
  exact ⟨j, List.mem_range.mpr hj, by rw [decide_eq_true hij, h]; rfl⟩
theorem getD_snd (ps : List (Int × Nat)) (i : Nat) : (ps.map (·.2)).getD i 0 = (ps.getD i (0, 0)).2 := by
  simp only [List.getD, List.getElem?_map]
  cases ps[i]? <;> rfl
section
variable {ps qs : List (Int × Nat)} {i j x y : Nat}
theorem bad_c (e1 : x = i) (e2 : y = i + 1 + j) (h1 : (((ps.getD x (0, 0)).2 &&& (qs.getD y (0, 0)).2 : Nat) : Int) = 0) (h2 : (((ps.getD y (0, 0)).2 &&& (qs.getD x (0, 0)).2 : Nat) : Int) = 0) : badB (ps.map (·.2)) (qs.map (·.2)) i (i + 1 + j) = false := by
  subst e1; subst e2
  rw [badB, crossB, getD_snd, getD_snd, getD_snd, getD_snd, decide_eq_false (by omega), decide_eq_false (by omega)]; rfl
theorem bad_s1 (e1 : x = i) (e2 : y = i + 1 + j) (h1 : (((ps.getD x (0, 0)).2 &&& (ps.getD y (0, 0)).2 : Nat) : Int) ≠ 0) : badB (ps.map (·.2)) (qs.map (·.2)) i (i + 1 + j) = false := by
  subst e1; subst e2
  rw [badB, shareB, getD_snd, getD_snd, decide_eq_true (by omega)]; simp
theorem bad_s2 (e1 : x = i) (e2 : y = i + 1 + j) (h1 : (((qs.getD x (0, 0)).2 &&& (qs.getD y (0, 0)).2 : Nat) : Int) ≠ 0) : badB (ps.map (·.2)) (qs.map (·.2)) i (i + 1 + j) = false := by
  subst e1; subst e2
  have : decide (((qs.map (·.2)).getD x 0 &&& (qs.map (·.2)).getD (x + 1 + j) 0) ≠ 0) = true := by rw [getD_snd, getD_snd]; exact decide_eq_true (by omega)
  rw [badB, shareB, this]; simp
theorem bad_t1 (e1 : x = i) (e2 : y = i + 1 + j) (h1 : (((ps.getD x (0, 0)).2 &&& (qs.getD y (0, 0)).2 : Nat) : Int) ≠ 0) (h2 : (((ps.getD x (0, 0)).2 &&& (ps.getD y (0, 0)).2 : Nat) : Int) = 0) (h3 : (((qs.getD x (0, 0)).2 &&& (qs.getD y (0, 0)).2 : Nat) : Int) = 0) : badB (ps.map (·.2)) (qs.map (·.2)) i (i + 1 + j) = true := by
  subst e1; subst e2
  rw [badB, crossB, shareB]
  simp only [getD_snd]
  rw [decide_eq_true (by omega), decide_eq_false (p := ¬ ((ps.getD x (0, 0)).2 &&& (ps.getD (x + 1 + j) (0, 0)).2) = 0) (by omega), decide_eq_false (p := ¬ ((qs.getD x (0, 0)).2 &&& (qs.getD (x + 1 + j) (0, 0)).2) = 0) (by omega)]; rfl
theorem bad_t2 (e1 : x = i) (e2 : y = i + 1 + j) (h1 : (((ps.getD y (0, 0)).2 &&& (qs.getD x (0, 0)).2 : Nat) : Int) ≠ 0) (h2 : (((ps.getD x (0, 0)).2 &&& (ps.getD y (0, 0)).2 : Nat) : Int) = 0) (h3 : (((qs.getD x (0, 0)).2 &&& (qs.getD y (0, 0)).2 : Nat) : Int) = 0) : badB (ps.map (·.2)) (qs.map (·.2)) i (i + 1 + j) = true := by
  subst e1; subst e2
  rw [badB, crossB, shareB]
  simp only [getD_snd]
  rw [decide_eq_true (p := ¬ ((ps.getD (x + 1 + j) (0, 0)).2 &&& (qs.getD x (0, 0)).2) = 0) (by omega), decide_eq_false (p := ¬ ((ps.getD x (0, 0)).2 &&& (ps.getD (x + 1 + j) (0, 0)).2) = 0) (by omega), decide_eq_false (p := ¬ ((qs.getD x (0, 0)).2 &&& (qs.getD (x + 1 + j) (0, 0)).2) = 0) (by omega)]; simp
end
end Mine
end
section
open PySem PySem.W PyProof.Rows
namespace Mine
noncomputable def kerOf (ms : List Nat) : List (Int × Nat) := (List.range ms.length).map fun (i : Nat) => (10 + 3 * (i : Int), ms.getD i 0)
noncomputable def New (c : Addr) (led : List (Addr × Obj)) : Prop := ∀ p ∈ led, p.1 ≠ c
theorem off3_of {I C D c : Addr} {o oI oC oD : Obj} {led led' : List (Addr × Obj)} (hne : New c led') (hI : (I, oI) ∈ led') (hC : (C, oC) ∈ led') (hD : (D, oD) ∈ led') (h : LCg.Off3 I C D led) : LCg.Off3 I C D ((c, o) :: led) := ⟨⟨Ne.symm (hne _ hI), Ne.symm (hne _ hC), Ne.symm (hne _ hD)⟩, h⟩
noncomputable def Apart' (tl news : List (Addr × Obj)) : Prop := ∀ p ∈ tl, ∀ q ∈ news, q.1 ≠ p.1
theorem Apart'.nil {news : List (Addr × Obj)} : Apart' [] news := fun _ h => nomatch h
theorem Apart'.cons {tl news : List (Addr × Obj)} {c : Addr} {o : Obj} (h : Apart' tl news) (hc : New c news) : Apart' ((c, o) :: tl) news := fun p hp => by
  rcases List.mem_cons.mp hp with rfl | hp
  · exact hc
  · exact h p hp
theorem rs0 (n : Nat) : Builtin.Range.rangeSize 0 (n : Int) 1 = (n : Int) := by rw [rangeSize_one]; split <;> omega
theorem mask_sum {m : Nat} (hm : m < 32) : ((intsM m).map fun i => (2 : Int) ^ i.toNat).sum = (m : Int) := by
  have : ∀ m ∈ List.range 32, ((intsM m).map fun i => (2 : Int) ^ i.toNat).sum = (m : Int) := by decide +kernel
  exact this m (List.mem_range.mpr hm)
theorem ints_small {m : Nat} : ∀ i ∈ intsM m, 0 ≤ i ∧ i < 5 := by
  intro i hi
  simp only [intsM, List.mem_map] at hi
  obtain ⟨v, hv, rfl⟩ := hi
  have := (mem_vals.mp hv).1
  omega
section
variable {prog : Program} {w : World} {A : Around} {E : Value → Shared → Prop} {s : Shared} {h₀ : Heap} {L : Addr} {mm : Str → Option Value} {led led0 led1 : List (Addr × Obj)}
theorem compRestF {m : Str → Option Value} {env : Env} {elt : PySem.Expr} {x : Str} {scope : Scope} {cl : List (Str × Addr)} {S : List (Addr × Obj) → Prop} {P : Nat → Value → Prop} {Fin : List Value → List (Addr × Obj) → Prop} {news : List (Addr × Obj)} {n : Nat} (G : Nat → List Value → Prop) (h0 : G 0 [])
    (turn : ∀ i ys v I oI C oC D m₂ h tk (E' : Value → Shared → Prop), i < n → G i ys → P i v → LCg.NsObj oC m₂ → m₂ x = some v → Fr h₀ L h m → News h₀ L h ((I, oI) :: (C, oC) :: (D, LCg.lst ys) :: news) → LCg.Off3 I C D news → ((@Ne Nat I C) ∧ (@Ne Nat I D) ∧ (@Ne Nat C D)) →
      wpAny (model prog w) A (eval elt (compEnvC scope cl C env)) (LCg.CompEnd h₀ L m { s with heap := h, toks := tk } I oI C oC D (LCg.lst ys) S (fun y led' => led' = news ∧ G (i + 1) (ys ++ [y]))) E' { s with heap := h, toks := tk })
    (fin : ∀ ys, G n ys → Fin ys news) : LCg.CompRest prog w A h₀ L m env elt x scope cl s S P Fin n 0 [] news :=
  compRest (G := fun i ys led => led = news ∧ G i ys) ⟨rfl, h0⟩ (fun i ys led v I oI C oC D m₂ h tk E' hi ⟨e, hG⟩ => by subst e; exact turn i ys v I oI C oC D m₂ h tk E' hi hG) fun ys led ⟨e, hG⟩ => by subst e; exact fin ys hG
theorem pows_step {ns : List Int} {ys : List Value} {i : Nat} {k : Int} {t : Tok} (hk : ns[i]? = some k) (hI : IntsAre ys ((ns.take i).map fun j => (2 : Int) ^ j.toNat)) : IntsAre (ys ++ [.int ((2 : Int) ^ k.toNat) t]) ((ns.take (i + 1)).map fun j => (2 : Int) ^ j.toNat) := by
  rw [List.take_add_one, hk, List.map_append]
  exact hI.append (.cons _ _ .nil)
theorem sorted_N {a : Addr} {o : Obj} {m : Nat} {Q : Value → Shared → Prop} (hh : A.handled = none) (F : Fr h₀ L s.heap mm) (N : News h₀ L s.heap led) (ha : (a, o) ∈ led0) (hs0 : ∀ p ∈ led0, p ∈ led) (hM : IsM (byT w) m o)
    (h : ∀ h' c vs e, Fr h₀ L h' mm → News h₀ L h' ((c, ({ cls := .type "list", data := .seq (List.toArray vs) e } : Obj)) :: led) → IntsAre vs (intsM m) → m < 32 → New c led → Q (.ref c) { s with heap := h' }) : wpAny (model prog w) A (call (.builtin "sorted") [.ref a]) Q E s := by
  have ga := (N _ (hs0 _ ha)).1
  refine sortedM hh ga hM fun h' c vs e hk hc ho hI => ?_
  obtain ⟨F', N'⟩ := grow_N F N hk hc ho
  exact h h' c vs e F' N' hI hM.1 fun p hp => Nat.ne_of_lt (Nat.lt_of_lt_of_le (Heap.lt_size (N p hp).1) hc)
theorem pow2_N {n : Int} {t u : Tok} {Q : Value → Shared → Prop} (h0 : 0 ≤ n) (h5 : n < 5) (h : Q (.int ((2 : Int) ^ n.toNat) s.toks) { s with toks := s.toks + 1 }) : wpAny (model prog w) A (binaryOp .Pow (.int 2 t) (.int n u)) Q E s :=
  pow_int_small h0 (by omega) (by decide) h
theorem tup_N {vs : List Value} {Q : Value → Shared → Prop} (F : Fr h₀ L s.heap mm) (N : News h₀ L s.heap led) (hz : vs.length ≤ 100)
    (h : ∀ h' c, Fr h₀ L h' mm → News h₀ L h' ((c, tupO vs.toArray 0) :: led) → New c led → Q (.ref c) { s with heap := h' }) : wpAny (model prog w) A (newTuple vs) Q E s := by
  refine wpAny_newObj_type ?_ (by show vs.toArray.size ≤ sizeLine; rw [List.size_toArray, sizeLine_eq]; omega)
  exact h _ _ (F.push _) (N.push F _) fun p hp => Nat.ne_of_lt (Heap.lt_size (N p hp).1)
theorem tupOf_N {a : Addr} {its : List Value} {e : Nat} {Q : Value → Shared → Prop} (F : Fr h₀ L s.heap mm) (N : News h₀ L s.heap led) (ha : (a, ({ cls := .type "list", data := .seq its.toArray e } : Obj)) ∈ led) (hz : its.length ≤ 100)
    (h : ∀ h' c, Fr h₀ L h' mm → News h₀ L h' ((c, tupO its.toArray 0) :: led) → New c led → Q (.ref c) { s with heap := h' }) : wpAny (model prog w) A (call (.type "tuple") [.ref a]) Q E s := by
  refine kde_tupleOf F N (News.isList N ha) (by rw [List.size_toArray]; omega) rfl fun D h' F' N' l => h h' D F' N' fun p hp => Nat.ne_of_lt (l p hp)
end
end Mine
end
section
open PySem PySem.W PyProof.Rows PySem.Calls
namespace Mine
noncomputable def Ground (s : Shared) (own : List (Addr × Obj)) (g : Heap) : Prop := ∀ b o, b ∉ own.map (·.1) → s.heap.get? b = some o → g.get? b = some o
section
variable {prog : Program} {w : World} {A A₀ : Around} {E : Value → Shared → Prop} {s : Shared} {K : Frag} {C L : Addr} {h₀ base : Heap} {m mg mb : Str → Option Value} {news : List (Addr × Obj)} {p : Program} {loose : List Str} {mean : ExcName → Option Value} {Q : Value → Shared → Prop}
theorem enterE {env : Env} {outer : List Env} {R : Result → Shared → Prop} {name qual : Str} {params : Arguments} {body : List Stmt} {scope : Scope} {dV kV doc pm cdv ct oc : Value} {an od : Option Addr} {osl : Array (Option Value)} {f : Addr} {args : Args} {binds : List (Str × Value)}
    (B : Below A₀ base outer h₀) (F : Fr h₀ L s.heap m) (X₀ : K.In h₀) (N : News h₀ L s.heap news) (T : Top p loose mean mg mb h₀) (hA : A.frames = some (env :: outer)) (hf : env.frame = some L) (hke : env.scope.kind = .function)
    (ho : K.lookup f = some ⟨oc, od, .func (fnOf name qual params body scope dV kV doc pm an cdv ct), osl⟩) (hcd : codeIn K cdv qual = true) (hroom : A.depth < recursionLimit)
    (hbind : BindsTo s (fnOf name qual params body scope dV kV doc pm an cdv ct) args binds) (hloc : ∀ y ∈ binds, scope.names.lookup y.1 = some .local)
    (h : ∀ g L' h₁, Fr h₀ L g m → Fr g L' h₁ (fun y => binds.reverse.lookup y) → News g L' h₁ news → Below A base (env :: outer) g → K.In g → Top p loose mean mg mb g → (∀ p ∈ news, p.1 < L') → Ground s news g →
      wpAny (model prog w) (A.deeper (envOf qual scope L' f cdv)) (execs body (envOf qual scope L' f cdv))
        (fun fl s' => LeaveK h₀ L m g R (match fl with | .ret v => v | _ => .none) s')
        (fun e s' => wpAny (model prog w) (A.deeper (envOf qual scope L' f cdv)) (leaving (envOf qual scope L' f cdv) e) (fun _ s'' => R (.error e) s'') (fun e' s'' => R (.error e') s'') s')
        { s with heap := h₁, toks := s.toks + binds.length })
    (hco : scope.isCoroutine = false) (hgen : scope.isGenerator = false) (hk : scope.kind = .function)
    (hcell : ∀ x ∈ scope.names, x.2 ≠ .cell) : codeAny (model prog w) A (.call (.ref f) args) R s := by
  obtain ⟨FG, BG, st, lv⟩ := groundX (R := R) B F N hA hf hke
  refine codeAny_call_def (fd := fnX name qual params body scope [] dV kV doc pm an cdv ct) (body := body) (binds := binds) hroom ((X₀.keeps F.keep) _ _ ho) rfl (T.nolimit.keeps F.keep) (codeRec_of (X₀.keeps F.keep) hcd) rfl hbind hcell hloc (fun h₁ hns hk₁ => ?_) hco hgen hk
  exact wpAny_mono (h _ s.heap.objs.size h₁ FG ⟨hns, fun b o e => hk₁ b o (of_hideAll _ e), Nat.le_of_eq (hideAll_size _ _)⟩
    (fun p hp => ⟨hk₁ _ _ (N p hp).1, Nat.ne_of_lt (Heap.lt_size (N p hp).1), hideAll_none _ (List.mem_map_of_mem hp)⟩) BG (X₀.keeps st) (T.keeps st) (fun p hp => Heap.lt_size (N p hp).1) fun b o hb e => hideAll_get _ e hb) (fun fl s' hl => lv _ _ hl) fun _ _ y => y
theorem enterCE {env : Env} {outer : List Env} {R : Result → Shared → Prop} {name qual : Str} {params : Arguments} {body : List Stmt} {scope : Scope} {dV kV doc pm cdv ct oc : Value} {an od : Option Addr} {osl : Array (Option Value)} {f : Addr} {args : Args} {binds : List (Str × Value)}
    (B : Below A₀ base outer h₀) (F : Fr h₀ L s.heap m) (X₀ : K.In h₀) (N : News h₀ L s.heap news) (T : Top p loose mean mg mb h₀) (hA : A.frames = some (env :: outer)) (hf : env.frame = some L) (hke : env.scope.kind = .function)
    (ho : K.lookup f = some ⟨oc, od, .func (fnOf name qual params body scope dV kV doc pm an cdv ct), osl⟩) (hcd : codeIn K cdv qual = true) (hroom : A.depth < recursionLimit)
    (hbind : BindsTo s (fnOf name qual params body scope dV kV doc pm an cdv ct) args binds) (hkind : (binds.all fun y => scope.names.lookup y.1 == some .local || scope.names.lookup y.1 == some .cell) = true)
    (hnd : ((cellsFrom 0 scope.names []).map (·.1)).Nodup)
    (h : ∀ g L' h₁ tk cells, Fr h₀ L g m → Fr g L' h₁ (bindL (envOfC qual scope L' f cdv).kindOf binds fun _ => none) → News g L' h₁ (cells ++ news) →
      CellsAre (bindC (envOfC qual scope L' f cdv).kindOf binds fun _ => none) (cellsFrom (L' + 1) scope.names []) cells → Below A base (env :: outer) g → K.In g → Top p loose mean mg mb g → (∀ p ∈ news, p.1 < L') → Ground s news g →
      wpAny (model prog w) (A.deeper (envOfC qual scope L' f cdv)) (execs body (envOfC qual scope L' f cdv))
        (fun fl s' => LeaveK h₀ L m g R (match fl with | .ret v => v | _ => .none) s')
        (fun e s' => wpAny (model prog w) (A.deeper (envOfC qual scope L' f cdv)) (leaving (envOfC qual scope L' f cdv) e) (fun _ s'' => R (.error e) s'') (fun e' s'' => R (.error e') s'') s')
        { s with heap := h₁, toks := tk })
    (hco : scope.isCoroutine = false) (hgen : scope.isGenerator = false) (hk : scope.kind = .function) : codeAny (model prog w) A (.call (.ref f) args) R s := by
  obtain ⟨FG, BG, st, lv⟩ := groundX (R := R) B F N hA hf hke
  refine codeAny_call_function hroom ((X₀.keeps F.keep) _ _ ho) rfl hco hgen rfl (codeRec_of (X₀.keeps F.keep) hcd) (hbind _ _ _ _ ?_)
  refine wpAny_newFunctionEnv_cells hk ((kindsX hkind) _) fun env' he s' x => ?_
  subst he
  refine ⟨(T.nolimit.keeps F.keep).keeps x.toInCall.keep, codeAny_func ?_⟩
  obtain ⟨h₁, tk, rfl, _⟩ := x.done
  have hk₁ := x.toInCall.keep
  obtain ⟨cells, NC, Y⟩ := Cl.news (h₀ := s.heap) (Nat.le_refl _) fun n c hm => ⟨x.cell n c (lookup_of_mem_nodup (cellsFrom_names scope.names 0 (s.heap.objs.size + 1) [] [] rfl ▸ hnd) hm), x.above n c hm⟩
  refine wpAny_mono (h _ s.heap.objs.size h₁ tk cells FG ⟨x.toInCall.ns, fun b o e => hk₁ b o (of_hideAll _ e), Nat.le_of_eq (hideAll_size _ _)⟩ (fun p hp => ?_) Y BG (X₀.keeps st) (T.keeps st) (fun p hp => Heap.lt_size (N p hp).1) fun b o hb e => hideAll_get _ e hb) (fun fl s' hl => lv _ _ hl) fun _ _ y => y
  rcases List.mem_append.mp hp with hp | hp
  · refine ⟨(NC p hp).1, (NC p hp).2.1, ?_⟩
    cases q : (hideAll s.heap (news.map (·.1))).get? p.1 with
    | none => rfl
    | some o => have := of_hideAll _ q; rw [(NC p hp).2.2] at this; cases this
  · exact ⟨hk₁ _ _ (N p hp).1, Nat.ne_of_lt (Heap.lt_size (N p hp).1), hideAll_none _ (List.mem_map_of_mem hp)⟩
theorem news_back {g h' : Heap} {L' : Addr} {m' : Str → Option Value} {own all new rest : List (Addr × Obj)} (G : Ground s own g) (N : News h₀ L s.heap all) (F' : Fr g L' h' m') (N' : News h₀ L h' new) (hr : ∀ p ∈ rest, p ∈ all) (ha : ∀ p ∈ rest, p.1 ∉ own.map (·.1)) : News h₀ L h' (new ++ rest) := fun p hp => by
  rcases List.mem_append.mp hp with hp | hp
  · exact N' p hp
  · exact ⟨F'.keep _ _ (G _ _ (ha p hp) (N p (hr p hp)).1), (N p (hr p hp)).2⟩
theorem apart_back {g h' : Heap} {L' : Addr} {own all new rest : List (Addr × Obj)} (G : Ground s own g) (N : News h₀ L s.heap all) (N' : News g L' h' new) (hr : ∀ p ∈ rest, p ∈ all) (ha : ∀ p ∈ rest, p.1 ∉ own.map (·.1)) : Apart' new rest := fun p hp q hq e => by
  have h1 := G _ _ (ha q hq) (N q (hr q hq)).1
  rw [e, (N' p hp).2.2] at h1; cases h1
end
end Mine
namespace Mine
theorem topTup_of {K : Frag} {h₀ h : Heap} {L a : Addr} {m : Str → Option Value} {its : Array Value} {n : Nat} {d : Option Addr} {sl : Array (Option Value)} (X : K.In h₀) (F : Fr h₀ L h m) (e : K.lookup a = some ⟨.type "tuple", d, .seq its n, sl⟩) : IsTup h a its := ⟨_, F.keep _ _ (X _ _ e), rfl, n, rfl⟩
end Mine
namespace Mine
theorem index_strs {prog : Program} {w : World} {A : Around} {E : Value → Shared → Prop} {s : Shared} (j : Nat) {l : Addr} {vs : List Value} {ys : List Str} {k : Str} {t : Tok} {Q : Value → Shared → Prop} (hl : s.heap.IsList l vs.toArray) (hi : StrsAre vs ys)
    (hk : ys[j]? = some k) (hno : (ys.take j).any (· == k) = false) (hz : ys.length ≤ 1000) (h : Q (.int (j : Nat) s.toks) { s with toks := s.toks + 1 }) :
    wpAny (model prog w) A (call (.builtin "list.index") [.ref l, .str k t]) Q E s := by
  obtain ⟨⟨cls, dd, data, sl⟩, ho, hc, n, hd⟩ := id hl
  simp only at hc hd
  subst hc hd
  have hlen := hi.len_eq
  have hj : j < ys.length := by obtain ⟨h, _⟩ := List.getElem?_eq_some_iff.mp hk; exact h
  refine call_meets PySem.F.slot_list_index ⟨_, ho, rfl⟩ PySem.F.entry_list_index (PySem.F.args_list_index_2 _ _)
    (PySem.SeqAt.list_indexAt l vs.toArray n dd sl (.str k t) (isStrOf k) j (by simpa [hlen] using hj) (by omega) ?_ ?_) ⟨ho, fun y hy => (eq_isStrOf k t hi y (by simpa using hy)).at _ _, h⟩
  · obtain ⟨t', e⟩ := hi.at hk
    have : vs.toArray[j]'(by simpa [hlen] using hj) = .str k t' := by
      have := List.getElem?_eq_some_iff.mp e
      simpa using this.2
    rw [this]; simp [isStrOf]
  · intro m hm hlt
    have hm' : m < ys.length := by simpa [hlen] using hm
    obtain ⟨t', e⟩ := hi.at (List.getElem?_eq_getElem hm')
    have : vs.toArray[m] = .str ys[m] t' := by
      have := List.getElem?_eq_some_iff.mp e
      simpa using this.2
    rw [this]
    show (ys[m] == k) = false
    have h1 := List.any_eq_false.mp hno ys[m] (by
      rw [List.mem_take_iff_getElem]
      exact ⟨m, by omega, rfl⟩)
    simpa using h1
end Mine
namespace Mine
noncomputable def LtAll (D : Nat) (as : List Nat) : Prop := ∀ a ∈ as, a < D
theorem ltAll_of {D : Addr} {news : List (Addr × Obj)} (h : ∀ p ∈ news, p.1 < D) : LtAll D (news.map (·.1)) := fun a ha => by
  obtain ⟨p, hp, rfl⟩ := List.mem_map.mp ha
  exact h p hp
theorem ne_lt {a D : Nat} {as : List Nat} (h : LtAll D as) (m : a ∈ as) : a ≠ D := Nat.ne_of_lt (h a m)
theorem ne_gt {a D : Nat} {as : List Nat} (h : LtAll D as) (m : a ∈ as) : D ≠ a := Nat.ne_of_gt (h a m)
end Mine
namespace Mine
noncomputable def NeAll (D : Nat) (as : List Nat) : Prop := ∀ a ∈ as, a ≠ D
theorem neAll_of {D : Addr} : ∀ {news : List (Addr × Obj)}, LCg.Off1 D news → NeAll D (news.map (·.1))
  | [], _ => fun _ h => nomatch h
  | p :: r, h => fun a ha => by
    rcases List.mem_cons.mp ha with rfl | ha
    · exact h.1
    · exact neAll_of h.2 a ha
theorem ne_all {a D : Nat} {as : List Nat} (h : NeAll D as) (m : a ∈ as) : a ≠ D := h a m
end Mine
namespace Mine
end Mine
end
section
open PySem PySem.W PyProof.Rows
namespace Mine
section
variable {prog : Program} {w : World} {A : Around} {E : Value → Shared → Prop} {s : Shared} {h₀ : Heap} {L : Addr} {mm : Str → Option Value} {led led0 led1 : List (Addr × Obj)}
noncomputable def HomesObj (prog : Program) (w : World) (o : Obj) (xs : List (List Int × Addr × Value)) : Prop :=
  o.ExactDict ∧ ∃ es ep, o.data = .dict es ep ∧ es.toList = xs.map (entryOfKey (tupleKind (intKind prog w))) ∧ (xs.map (·.1)).Nodup
noncomputable def KeysIn (prog : Program) (w : World) (led : List (Addr × Obj)) (xs : List (List Int × Addr × Value)) : Prop := ∀ x ∈ xs, ∃ ok, (x.2.1, ok) ∈ led ∧ TupKeyObj (intKind prog w) x.1 ok
theorem HomesObj.at {d : Addr} {o : Obj} {xs : List (List Int × Addr × Value)} {h : Heap} (H : HomesObj prog w o xs) (N : News h₀ L h led) (hm : (d, o) ∈ led) (K : KeysIn prog w led xs) : h.DictOfH (tupleKind (intKind prog w)) d xs := by
  obtain ⟨hx, es, ep, hd, he, hn⟩ := H
  exact ⟨o, es, ep, (N _ hm).1, hx, hd, he, fun x hx => let ⟨_, hmk, t⟩ := K x hx; t.key (N.get hmk), hn⟩
theorem HomesObj.nil {o : Obj} (h : o.IsDictOf (intKind prog w) []) : HomesObj prog w o [] := by
  obtain ⟨es, ep, hc, hdat, _, hp, _⟩ := h
  have he : es.toList = [] := List.length_eq_zero_iff.mp hp.length
  exact ⟨hc, es, ep, hdat, he, List.nodup_nil⟩
theorem homes_get {d a : Addr} {o ok : Obj} {xs : List (List Int × Addr × Value)} {ks : List Int} {dflt : Value} {Q : Value → Shared → Prop} (hu : A.units + 1 < cLine) (lo : (d == sysModules) = false) (N : News h₀ L s.heap led) (H : HomesObj prog w o xs) (hm : (d, o) ∈ led) (K : KeysIn prog w led xs) (ha : (a, ok) ∈ led) (tk : TupKeyObj (intKind prog w) ks ok)
    (h : Q (((atKey xs ks).map (·.2)).getD dflt) { s with toks := s.toks + (ks.length + 1) }) : wpAny (model prog w) A (call (.builtin "dict.get") [.ref d, .ref a, dflt]) Q E s := by
  have hd := H.at N hm K
  exact call_meetsIn PySem.F.slot_dict_get hd.typeIs PySem.F.entry_dict_get (PySem.F.args_dict_get_3 _ _ _) (meetsH_dict_get_default (tupleKind (intKind prog w)) d a lo dflt) ⟨tupleKind_room_in1 hu, ks, xs, tk.key (N.get ha), hd, h⟩
theorem homes_meth {d : Addr} {o : Obj} {xs : List (List Int × Addr × Value)} {name : Str} {id : String} {pl : Sem Bool} {Q : Value × List Value → Shared → Prop} (slot : Slot "dict" name id) (hty : typeOf (.builtin id) = pure (.type "method_descriptor")) (N : News h₀ L s.heap led) (H : HomesObj prog w o xs) (hm : (d, o) ∈ led)
    (h : Q (.builtin id, [.ref d]) s) : wpAny (model prog w) A (getMethod (.ref d) name pl) Q E s := by
  obtain ⟨hx, es, ep, hd, he, hn⟩ := H
  exact getMethod_builtin ⟨o, (N _ hm).1, hx.1⟩ PySem.F.plainAttrs_dict slot hty (fun b e => by injection e with e; subst e; exact ⟨o, (N _ hm).1, hx.2.1⟩) h
theorem dictSetDefault_heap {d a : Addr} {xs : List (List Int × Addr × Value)} {k : List Int} {v : Value} {Q : Value → Shared → Prop} (hu : (tupleKind (intKind prog w)).room A) (hkey : (tupleKind (intKind prog w)).is s.heap k a) (hm : s.heap.DictOfH (tupleKind (intKind prog w)) d xs)
    (there : ∀ p, atKey xs k = some p → Q p.2 { s with toks := s.toks + (tupleKind (intKind prog w)).draws k })
    (new : atKey xs k = none → ∀ h', h'.DictOfH (tupleKind (intKind prog w)) d (xs ++ [(k, a, v)]) → Heap.SameBut d s.heap h' → Q v { s with heap := h', toks := s.toks + (tupleKind (intKind prog w)).draws k })
    (hsz : xs.length ≤ 1000) :
    wpAny (model prog w) A (dictSetDefault d (.ref a) v) Q E s := by
  obtain ⟨o, es, ep, ho, hc, hd, he, his, hn⟩ := hm
  have hsz' : xs.length ≤ sizeLine := by rw [sizeLine_eq]; omega
  unfold dictSetDefault
  try with_reducible refine wpAny_holding ?_
  refine wpAny_bind ((tupleKind (intKind prog w)).pyHash hu hkey ?_)
  refine wpAny_bind (wpAny_dictFind_heap (s := { s with toks := s.toks + (tupleKind (intKind prog w)).draws k }) hu hkey ho hd he his hn ?_ ?_)
  · intro hno
    have hnot : k ∉ xs.map (·.1) := not_mem_keys_of_get hno
    refine wpAny_bind (wpAny_rule (wpAny_bind (wpAny_updateDictKeys (hz := by have e := size_of_entries he; omega) (s := { s with toks := s.toks + (tupleKind (intKind prog w)).draws k }) ho hd (wpAny_pure (new (atKey_none_of_get hno) _ ⟨_, _, ep + 1, Heap.get?_update_self _ ho (Obj.isFreed_of_dict (Obj.data_mapDictKeys hd _)),
      hc.mapDictKeys _, Obj.data_mapDictKeys hd _, ?_, ?_, ?_⟩ (Heap.SameBut.update ..))))))
    · simp [he, entryOfKey]
    · intro x hx
      rcases List.mem_append.mp hx with hx | hx
      · exact (tupleKind (intKind prog w)).keeps (his x hx) ho hd (Heap.SameBut.update ..)
      · simp only [List.mem_singleton] at hx
        subst hx
        exact (tupleKind (intKind prog w)).keeps hkey ho hd (Heap.SameBut.update ..)
    · rw [List.map_append, List.nodup_append]
      refine ⟨hn, by simp, ?_⟩
      intro x hx y hy
      simp only [List.map_cons, List.map_nil, List.mem_singleton] at hy
      subst hy
      exact fun e => hnot (e ▸ hx)
  · intro j p hj
    refine wpAny_bind (wpAny_dictEntries ho hd ?_)
    have e1 : es[j]? = some (entryOfKey (tupleKind (intKind prog w)) (k, p)) := by rw [entry_at he j, hj]; rfl
    rw [e1]
    exact wpAny_bind (wpAny_rule (wpAny_pure (there p (atKey_of_get hn hj))))
theorem setdefault_meets {d a : Addr} {k : List Int} (lo : (d == sysModules) = false) (dflt : Value) :
    MeetsIn prog w (Builtin.«dict.setdefault» ⟨[.ref d, .ref a, dflt], []⟩) (fun A R s => ∃ xs, A.units + 1 < cLine ∧ (tupleKind (intKind prog w)).is s.heap k a ∧ s.heap.DictOfH (tupleKind (intKind prog w)) d xs ∧ xs.length ≤ 1000 ∧
      (∀ p, atKey xs k = some p → R (.ok (.ret p.2)) { s with toks := s.toks + (tupleKind (intKind prog w)).draws k }) ∧
      (atKey xs k = none → ∀ h', h'.DictOfH (tupleKind (intKind prog w)) d (xs ++ [(k, a, dflt)]) → Heap.SameBut d s.heap h' → R (.ok (.ret dflt)) { s with heap := h', toks := s.toks + (tupleKind (intKind prog w)).draws k })) :=
  .of_wp fun A R s ⟨xs, hu, hkey, hm, hz, h1, h2⟩ => by
    unfold Builtin.«dict.setdefault»
    refine wpAny_bind ?_
    unfold Builtin.Dict.keyAndDefault
    refine wpAny_bind (wpAny_notOrdered_dict hm.typeIs ?_)
    show wpAny _ _ (pure (d, Value.ref a, some dflt)) _ _ s
    refine wpAny_pure ?_
    show wpAny _ _ (if (d == sysModules) = true then _ else (dictSetDefault d (Value.ref a) dflt >>= _)) _ _ s
    rw [if_neg (by rw [lo]; exact Bool.false_ne_true)]
    exact wpAny_bind (dictSetDefault_heap (tupleKind_room_in1 hu) hkey hm (fun p hp => wpAny_pure ⟨p.2, rfl, h1 p hp⟩) (fun hn h' hm' hs' => wpAny_pure ⟨dflt, rfl, h2 hn h' hm' hs'⟩) hz)
theorem homes_default {d a : Addr} {o ok : Obj} {xs : List (List Int × Addr × Value)} {ks : List Int} {dflt : Value} {g : Obj → List (Addr × Obj)} {Q : Value → Shared → Prop} (hu : A.units + 1 < cLine) (lo : (d == sysModules) = false) (F : Fr h₀ L s.heap mm) (N : News h₀ L s.heap led) (U : UpdF d o led g) (H : HomesObj prog w o xs) (K : KeysIn prog w led xs) (ha : (a, ok) ∈ led) (tk : TupKeyObj (intKind prog w) ks ok) (hz : xs.length ≤ 1000)
    (there : ∀ p, atKey xs ks = some p → Q p.2 { s with toks := s.toks + (ks.length + 1) })
    (new : atKey xs ks = none → ∀ h' o', Fr h₀ L h' mm → News h₀ L h' (g o') → HomesObj prog w o' (xs ++ [(ks, a, dflt)]) → Q dflt { s with heap := h', toks := s.toks + (ks.length + 1) }) : wpAny (model prog w) A (call (.builtin "dict.setdefault") [.ref d, .ref a, dflt]) Q E s := by
  obtain ⟨pre, post, rfl, hg, a1, b1⟩ := U.split
  have hm : (d, o) ∈ pre ++ (d, o) :: post := List.mem_append_right _ List.mem_cons_self
  have hd := H.at N hm K
  refine call_meetsIn PySem.F.slot_dict_setdefault hd.typeIs PySem.F.entry_dict_setdefault (PySem.F.args_dict_setdefault_3 _ _ _) (setdefault_meets (k := ks) lo dflt) ⟨xs, hu, tk.key (N.get ha), hd, hz, there, fun hn h' hm' hs' => ?_⟩
  obtain ⟨o', es', ep', ho', hc', hd', he', _, hn'⟩ := hm'
  have z := N _ hm
  refine new hn h' o' (F.change hs' z.2.1 z.2.2) ?_ ⟨hc', es', ep', hd', he', hn'⟩
  rw [hg]
  exact news_set N a1 b1 hs' ho'
end
end Mine
end
section
open PySem PySem.W PyProof.Rows
namespace Mine
section
variable {prog : Program} {w : World} {A : Around} {E : Value → Shared → Prop} {s : Shared} {h₀ : Heap} {L : Addr} {m : Str → Option Value} {env : Env}
noncomputable def SrcTup (prog : Program) (w : World) (A : Around) (h₀ : Heap) (L : Addr) (m : Str → Option Value) (env : Env) (elt : PySem.Expr) (x : Str) (scope : Scope) (cl : List (Str × Addr)) (Fin : Shared → List Value → List (Addr × Obj) → Prop) (xv : Value) (s₁ : Shared) : Prop :=
  ∃ ax its k news, xv = .ref ax ∧ A.handled = none ∧ Fr h₀ L s₁.heap m ∧ News h₀ L s₁.heap news ∧ (ax, tupO its k) ∈ news ∧ its.size ≤ sizeLine ∧
    ∀ s₂ : Shared, (∃ h, s₂ = { s₁ with heap := h }) → LCg.CompRest prog w A h₀ L m env elt x scope cl s₂ (fun nw => (ax, tupO its k) ∈ nw) (fun i v => its[i]? = some v) (Fin s₂) its.size 0 [] news
theorem ListComp_Tup {elt iter : PySem.Expr} {x : Str} {px : Pos} {scope : Scope} {cl : List (Str × Addr)} {pos : Pos} {Q : Value → Shared → Prop} (F₀ : Fr h₀ L s.heap m)
    (hclos : closureFor scope env = pure cl) (hcell : ∀ y ∈ scope.names, y.2 ≠ .cell) (hkind : scope.kind = .function)
    (hnames : ∀ y ∈ scope.names, y.2 = .local → scope.names.lookup y.1 = some .local) (hx : scope.names.lookup x = some .local)
    (h : wpAny (model prog w) A (eval iter env) (SrcTup prog w A h₀ L m env elt x scope cl (fun s₂ => LCg.FinE h₀ L m s₂ Q)) E s)
    (hs : ∀ x, foldedSetIterable iter env x = pure x := by intro _; rfl) :
    wpAny (model prog w) A (eval (.ListComp elt [⟨.Name x px, iter, [], 0⟩] scope pos) env) Q E s := by
  rw [eval_ListComp]
  refine wpAny_comprehension_free (use := none) rfl hs hclos hkind hnames (wpAny_mono h (fun xv s₁ h₁ => ?_) fun _ _ e => e)
  obtain ⟨ax, its, k, news, rfl, hh, F, N, hm, hsz, R⟩ := h₁
  have ht : s₁.heap.IsTuple ax its := ⟨_, (N _ hm).1, rfl, k, rfl⟩
  have hlt : ax < s₁.heap.objs.size := Heap.lt_size (N _ hm).1
  refine wpAny_pyIter_tuple ht ?_
  refine LCg.block_U (Walks.tuple hh s₁.heap.objs.size ax (Nat.ne_of_lt hlt) its) hsz (fun i h st => by obtain ⟨o, e, _⟩ := st.1; exact ⟨o, e⟩)
    (fun i h h' o nw st e e' kp N' S => ⟨by obtain ⟨o', q, r⟩ := st.1; rw [e] at q; cases q; exact ⟨o, e', r⟩, ⟨_, (N' _ S).1, rfl, k, rfl⟩⟩) hcell hkind hx
    ⟨⟨_, Heap.get?_push_size _ rfl, rfl, rfl⟩, ⟨_, Heap.get?_push_of_some _ (N _ hm).1, rfl, k, rfl⟩⟩ (fun b hb => ?_)
    (F.push _) (fun p hp => ⟨Heap.get?_push_of_some _ (N p hp).1, (N p hp).2⟩) (Nat.ne_of_lt F.ns.lt) (next_is_new F) (fun p hp => Nat.ne_of_lt (Heap.lt_size (N p hp).1)) hm (R _ ⟨_, rfl⟩) ?_
  · show b < (s₁.heap.push _).objs.size
    rw [Heap.size_push]
    rcases List.mem_cons.mp hb with rfl | hb
    · exact Nat.lt_succ_self _
    · rw [List.mem_singleton.mp hb]; exact Nat.lt_succ_of_lt hlt
  · intro D C h tk m' ys news' F' N' o1 hn hC₀ hD₀ hCL hDL hCD offC fin
    refine ⟨m', hn, fun h'' hs'' => fin D h'' tk (F'.change hs'' hCL hC₀) (fun p hp => ?_) o1⟩
    refine ⟨hs''.extBut _ _ ?_ (N' p hp).1, (N' p hp).2⟩
    rcases List.mem_cons.mp hp with rfl | hp
    · exact Ne.symm hCD
    · exact offC p hp
theorem SrcTup.intro {elt : PySem.Expr} {x : Str} {scope : Scope} {cl : List (Str × Addr)} {Fin : Shared → List Value → List (Addr × Obj) → Prop} {ax : Addr} {its : Array Value} {k : Nat} {news : List (Addr × Obj)} {s₁ : Shared}
    (hh : A.handled = none) (F : Fr h₀ L s₁.heap m) (N : News h₀ L s₁.heap news) (hm : (ax, tupO its k) ∈ news) (hsz : its.size ≤ sizeLine)
    (h : ∀ g, LCg.CompRest prog w A h₀ L m env elt x scope cl { s₁ with heap := g } (fun nw => (ax, tupO its k) ∈ nw) (fun i v => its[i]? = some v) (Fin { s₁ with heap := g }) its.size 0 [] news) : SrcTup prog w A h₀ L m env elt x scope cl Fin (.ref ax) s₁ :=
  ⟨ax, its, k, news, rfl, hh, F, N, hm, hsz, fun _ ⟨g, e⟩ => e ▸ h g⟩
end
theorem items_key {prog : Program} {w : World} {vs : List Value} {ns : List Int} (h : IntsAre vs ns) : ItemsAre (intKind prog w) ns vs := by
  induction h with
  | nil => exact .nil
  | cons n t _ ih => exact .cons (intKind_is _ _ _ _) ih
end Mine
end
section
open PySem PySem.W PyProof.Rows
namespace Mine
end Mine
namespace Mine
end Mine
end
section
open PySem PySem.W PyProof.Rows
namespace Mine
section
variable {prog : Program} {w : World} {A : Around} {E : Value → Shared → Prop} {s : Shared} {env : Env} {h₀ : Heap} {x : Str} {body : List Stmt} {Q : Flow → Shared → Prop}
end
end Mine
end
section
open PySem PySem.W PyProof.Rows
namespace Mine
noncomputable def Dis : List Nat → Prop
  | [] => True
  | a :: r => NeAll a r ∧ Dis r
noncomputable def DisR (as : List Nat) (rest : List (Addr × Obj)) : Prop := ∀ a ∈ as, ∀ p ∈ rest, p.1 ≠ a
theorem disR_at {as : List Nat} {rest : List (Addr × Obj)} {a : Nat} (h : DisR as rest) (m : a ∈ as) : ∀ p ∈ rest, p.1 ≠ a := h a m
theorem neAll_nil {a : Nat} : NeAll a [] := fun _ h => nomatch h
theorem neAll_cons {a b : Nat} {r : List Nat} (h : b ≠ a) (t : NeAll a r) : NeAll a (b :: r) := fun x hx => by
  rcases List.mem_cons.mp hx with rfl | hx
  · exact h
  · exact t x hx
theorem disR_nil {rest : List (Addr × Obj)} : DisR [] rest := fun _ h => nomatch h
theorem disR_cons {a : Nat} {as : List Nat} {rest : List (Addr × Obj)} (h : ∀ p ∈ rest, p.1 ≠ a) (t : DisR as rest) : DisR (a :: as) rest := fun x hx => by
  rcases List.mem_cons.mp hx with rfl | hx
  · exact h
  · exact t x hx
theorem getL_put {name : Str} {h : Int} {t : Tok} {v : Value} : ∀ (es : List DictEntry), getL name (putL name h (.str name t) v es) = some (some v)
  | [] => by simp [putL, getL, Value.isStr]
  | e :: r => by
    have ih := getL_put (h := h) (t := t) (v := v) (name := name) r
    unfold putL
    by_cases he : e.key.isStr name = true
    · rw [if_pos he]; simp [getL, he]
    · rw [if_neg he]
      unfold getL at ih ⊢
      rw [List.find?_cons_of_neg (by simpa using he)]
      cases hf : (putL name h (.str name t) v r).find? (·.key.isStr name) with
      | some e' => rw [hf] at ih; exact ih
      | none =>
        rw [hf] at ih
        simp only at ih
        split at ih <;> cases ih
theorem putL_len {name : Str} {h : Int} {k v : Value} : ∀ (es : List DictEntry), (putL name h k v es).length ≤ es.length + 1
  | [] => by simp [putL]
  | e :: r => by
    have ih := putL_len (h := h) (k := k) (v := v) (name := name) r
    unfold putL
    split
    · simp
    · simp only [List.length_cons]; omega
theorem putL_same {name : Str} {h : Int} {k v v' : Value} : ∀ (es : List DictEntry), getL name es = some (some v') → (putL name h k v es).length = es.length
  | [], e => by simp [getL] at e
  | e :: r, e1 => by
    unfold putL
    by_cases he : e.key.isStr name = true
    · rw [if_pos he]; simp
    · rw [if_neg he]
      simp only [List.length_cons]
      rw [putL_same (v' := v') r]
      unfold getL at e1 ⊢
      rw [List.find?_cons_of_neg (by simpa using he)] at e1
      cases hf : r.find? (·.key.isStr name) with
      | some e' => rw [hf] at e1; exact e1
      | none =>
        rw [hf] at e1
        simp only at e1
        split at e1 <;> cases e1
theorem itemL_N {prog : Program} {w : World} {A : Around} {E : Value → Shared → Prop} {s : Shared} {h₀ : Heap} {L l : Addr} {led : List (Addr × Obj)} {value slice : PySem.Expr} {its : Array Value} {n : Nat} {k : Int} {u : Tok} {v : Value} {Q : Value → Shared → Prop} (N : News h₀ L s.heap led) (hm : (l, W.listOf its n) ∈ led) (h0 : 0 ≤ k) (hk : k < 64) (hx : its[k.toNat]? = some v) (h : Q v s)
    (hs : subscripted slice false (.ref l) (.int k u) = operate [.ref l, .int k u] (getItem (.ref l) (.int k u)) := by with_unfolding_all rfl) :
    wpAny (model prog w) A (subscriptTail value slice (.ref l) (.int k u)) Q E s := by
  have hl : s.heap.IsList l its.toList.toArray := ⟨_, (N _ hm).1, rfl, n, by simp⟩
  exact tail_any hl.typeIs PySem.slot_list_getitem.lookup (wpAny_getItem_list hl h0 (by omega) (x := v) (by rw [List.getElem?_toArray, Array.getElem?_toList]; exact hx) h) hs
theorem neAll_of_all {I : Addr} {led : List (Addr × Obj)} (h : ∀ p ∈ led, p.1 ≠ I) : NeAll I (led.map (·.1)) := fun a ha => by
  obtain ⟨p, hp, rfl⟩ := List.mem_map.mp ha
  exact h p hp
theorem len_N2 {prog : Program} {w : World} {A : Around} {E : Value → Shared → Prop} {s : Shared} {h₀ : Heap} {L l : Addr} {news : List (Addr × Obj)} {its : Array Value} {n : Nat} {Q : Value → Shared → Prop} (N : News h₀ L s.heap news) (hm : (l, W.listOf its n) ∈ news) (hsm : its.size ≤ 64) (h : Q (.int (its.size : Nat) (s.toks + 1)) { s with toks := s.toks + 1 + 1 }) :
    wpAny (model prog w) A (call (.builtin "len") [.ref l]) Q E s := Calls.call_len_list ⟨_, (N _ hm).1, rfl, n, rfl⟩ (by omega) h
end Mine
end
section
open PySem PySem.W PyProof.Rows
namespace Mine
end Mine
end
section
open PySem PySem.W PyProof.Rows
namespace Mine
section
variable {s : Shared} {h₀ g h' : Heap} {L L' : Addr} {m' : Str → Option Value} {own all fin : List (Addr × Obj)}
end
end Mine
namespace Mine
section
variable {s : Shared} {h₀ g h' : Heap} {L L' : Addr} {m' : Str → Option Value} {own all fin : List (Addr × Obj)}
end
end Mine
end
section
open PySem PySem.W PyProof.Rows
namespace Mine
section
variable {prog : Program} {w : World} {A : Around} {E : Value → Shared → Prop} {s : Shared} {env : Env} {h₀ : Heap} {target : PySem.Expr} {body : List Stmt} {Q : Flow → Shared → Prop}
noncomputable def TurnJ (h₀ : Heap) (L : Addr) (I : Addr) (o : Obj) (J : (Str → Option Value) → List (Addr × Obj) → Prop) (s₁ : Shared) (Q : Flow → Shared → Prop) (f : Flow) (s₂ : Shared) : Prop :=
  match f with
  | .ret v => Q (.ret v) s₂
  | .brk => Q .next s₂
  | _ => ∃ h' tk' m' led, s₂ = { s₁ with heap := h', toks := tk' } ∧ Fr h₀ L h' m' ∧ News h₀ L h' ((I, o) :: led) ∧ (∀ p ∈ led, p.1 ≠ I) ∧ J m' led
end
end Mine
namespace Mine
section
variable {prog : Program} {w : World} {A : Around} {E : Value → Shared → Prop} {s : Shared} {h₀ : Heap} {L : Addr} {mm : Str → Option Value} {led : List (Addr × Obj)}
theorem setL_N {l : Addr} {its : Array Value} {n : Nat} {us : List Nat} {Q : Value → Shared → Prop} (hh : A.handled = none) (F : Fr h₀ L s.heap mm) (N : News h₀ L s.heap led) (hm : (l, W.listOf its n) ∈ led) (hn : us.length = its.size)
    (hval : ∀ (i : Nat) (v : Value), its[i]? = some v → ∃ (u : Nat) (t : Tok), us[i]? = some u ∧ u < 5 ∧ v = Value.int (u : Int) t)
    (h : ∀ h' c o' tk, Fr h₀ L h' mm → News h₀ L h' ((c, o') :: led) → IsM (byT w) (maskOf us) o' → (∀ p ∈ led, p.1 < c) → Q (.ref c) { s with heap := h', toks := tk }) : wpAny (model prog w) A (call (.type "set") [.ref l]) Q E s := by
  refine callSet1 us hh ⟨_, (N _ hm).1, rfl, n, rfl⟩ hn hval fun h' tk o' hk ho hM => ?_
  obtain ⟨F', N'⟩ := grow_N F N hk (Nat.le_refl _) ho
  exact h h' _ o' tk F' N' hM fun p hp => Heap.lt_size (N p hp).1
theorem set1_N {l : Addr} {u : Int} {k n : Nat} {t : Tok} {Q : Value → Shared → Prop} (hh : A.handled = none) (F : Fr h₀ L s.heap mm) (N : News h₀ L s.heap led) (hm : (l, W.listOf #[.int u t] n) ∈ led) (hu : u = (k : Int)) (h5 : k < 5)
    (h : ∀ h' c o' tk, Fr h₀ L h' mm → News h₀ L h' ((c, o') :: led) → IsM (byT w) (2 ^ k) o' → (∀ p ∈ led, p.1 < c) → Q (.ref c) { s with heap := h', toks := tk }) : wpAny (model prog w) A (call (.type "set") [.ref l]) Q E s := by
  subst hu
  refine setL_N (us := [k]) hh F N hm rfl (fun i v e => ?_) ?_
  · match i with
    | 0 => cases e; exact ⟨k, t, rfl, h5, rfl⟩
    | i + 1 => cases e
  · have e : maskOf [k] = 2 ^ k := by simp [maskOf]
    rw [e]; exact h
end
end Mine
end
section
open PySem PySem.W PyProof.Rows
namespace Mine
noncomputable def orOf (ms ns : List Nat) : List Nat := (List.range ms.length).map fun (i : Nat) => ms.getD i 0 ||| ns.getD i 0
theorem goes_iff {ms ns : List Nat} : goesB ms ns = true ↔ ∀ i j, i < j → j < ms.length → badB ms ns i j = false := by
  rw [goesB, Bool.not_eq_true', List.any_eq_false]
  constructor
  · intro h i j hij hj
    have h1 := h i (List.mem_range.mpr (by omega))
    rw [Bool.not_eq_true, List.any_eq_false] at h1
    have h2 := h1 j (List.mem_range.mpr hj)
    rw [decide_eq_true hij, Bool.true_and] at h2
    simpa using h2
  · intro h i hi
    rw [Bool.not_eq_true, List.any_eq_false]
    intro j hj
    by_cases hij : i < j
    · rw [h i j hij (List.mem_range.mp hj)]; simp
    · simp [hij]
theorem shares_iff {ms : List Nat} : sharesB ms = false ↔ ∀ i j, i < j → j < ms.length → ms.getD i 0 &&& ms.getD j 0 = 0 := by
  rw [sharesB, List.any_eq_false]
  constructor
  · intro h i j hij hj
    have h1 := h i (List.mem_range.mpr (by omega))
    rw [Bool.not_eq_true, List.any_eq_false] at h1
    have h2 := h1 j (List.mem_range.mpr hj)
    rw [decide_eq_true hij, Bool.true_and] at h2
    simpa using h2
  · intro h i hi
    rw [Bool.not_eq_true, List.any_eq_false]
    intro j hj
    by_cases hij : i < j
    · rw [h i j hij (List.mem_range.mp hj)]; simp
    · simp [hij]
theorem bad_symm (ms ns : List Nat) (i j : Nat) : badB ns ms i j = badB ms ns i j := by
  rw [badB, badB, crossB, crossB, shareB, shareB, Nat.and_comm (ns.getD i 0) (ms.getD j 0), Nat.and_comm (ns.getD j 0) (ms.getD i 0)]
  generalize decide (ms.getD j 0 &&& ns.getD i 0 ≠ 0) = a
  generalize decide (ms.getD i 0 &&& ns.getD j 0 ≠ 0) = b
  generalize decide (ms.getD i 0 &&& ms.getD j 0 ≠ 0) = c
  generalize decide (ns.getD i 0 &&& ns.getD j 0 ≠ 0) = d
  cases a <;> cases b <;> cases c <;> cases d <;> rfl
theorem goes_symm {ms ns : List Nat} (hl : ns.length = ms.length) : goesB ns ms = goesB ms ns := by
  rw [Bool.eq_iff_iff, goes_iff, goes_iff, hl]
  constructor <;> intro h i j hij hj
  · rw [← bad_symm]; exact h i j hij hj
  · rw [bad_symm]; exact h i j hij hj
theorem goes_self (ms : List Nat) : goesB ms ms = true := goes_iff.mpr fun i j _ _ => by
  rw [badB, crossB, shareB, Nat.and_comm (ms.getD j 0) (ms.getD i 0)]
  generalize decide (ms.getD i 0 &&& ms.getD j 0 ≠ 0) = c
  cases c <;> rfl
theorem goes_zero {ms zs : List Nat} (hz : ∀ i, zs.getD i 0 = 0) : goesB ms zs = true := goes_iff.mpr fun i j _ _ => by
  rw [badB, crossB, hz, hz]; simp
theorem orOf_at {ms ns : List Nat} {i : Nat} (hi : i < ms.length) : (orOf ms ns).getD i 0 = ms.getD i 0 ||| ns.getD i 0 := by
  rw [orOf, List.getD, List.getElem?_map, List.getElem?_range hi]; rfl
theorem orOf_len (ms ns : List Nat) : (orOf ms ns).length = ms.length := by simp [orOf]
theorem and_or_zero {a b c d : Nat} : (a ||| b) &&& (c ||| d) = 0 ↔ a &&& c = 0 ∧ a &&& d = 0 ∧ b &&& c = 0 ∧ b &&& d = 0 := by
  rw [Nat.and_or_distrib_left, Nat.and_or_distrib_right, Nat.and_or_distrib_right]
  simp only [Nat.or_eq_zero_iff]
  constructor
  · rintro ⟨⟨h1, h2⟩, h3, h4⟩; exact ⟨h1, h3, h2, h4⟩
  · rintro ⟨h1, h2, h3, h4⟩; exact ⟨⟨h1, h3⟩, h2, h4⟩
theorem goes_shares {ms ns : List Nat} (hl : ns.length = ms.length) (h1 : sharesB ms = false) (h2 : sharesB ns = false) : goesB ms ns = !sharesB (orOf ms ns) := by
  rw [shares_iff] at h1 h2
  rw [Bool.eq_iff_iff, Bool.not_eq_true', goes_iff, shares_iff, orOf_len]
  constructor
  · intro h i j hij hj
    rw [orOf_at (by omega), orOf_at hj, and_or_zero]
    have h3 := h1 i j hij hj
    have h4 := h2 i j hij (by omega)
    have h5 := h i j hij hj
    rw [badB, crossB, shareB, h3, h4] at h5
    simp at h5
    exact ⟨h3, h5.1, by rw [Nat.and_comm]; exact h5.2, h4⟩
  · intro h i j hij hj
    have h5 := h i j hij hj
    rw [orOf_at (by omega), orOf_at hj, and_or_zero] at h5
    rw [badB, crossB, h5.2.1, Nat.and_comm (ms.getD j 0), h5.2.2.1]
    simp
theorem goes_or_shares {ms ns : List Nat} (h : goesB ms ns = false) : sharesB (orOf ms ns) = true := by
  refine Classical.byContradiction fun hn => ?_
  rw [Bool.not_eq_true, shares_iff, orOf_len] at hn
  rw [← Bool.not_eq_true, goes_iff] at h
  refine h fun i j hij hj => ?_
  have h5 := hn i j hij hj
  rw [orOf_at (by omega), orOf_at hj, and_or_zero] at h5
  rw [badB, crossB, h5.2.1, Nat.and_comm (ms.getD j 0), h5.2.2.1]
  simp
noncomputable def Full (ms : List Nat) : Prop := ∀ i, i < ms.length → (ms.getD i 0).testBit 4 = true
theorem full_goes {ms ns : List Nat} (h : Full ms) : goesB ms ns = true := goes_iff.mpr fun i j hij hj => by
  have h1 : ms.getD i 0 &&& ms.getD j 0 ≠ 0 := fun e => by
    have := congrArg (fun x => x.testBit 4) e
    simp only [Nat.testBit_and, h i (by omega), h j hj, Nat.zero_testBit] at this
    cases this
  rw [badB, shareB, decide_eq_true h1]; simp
theorem goes_full {ms ns : List Nat} (hl : ns.length = ms.length) (h : Full ns) : goesB ms ns = true := by rw [← goes_symm hl]; exact full_goes h
theorem or_full {ms ns : List Nat} (hl : ns.length = ms.length) (h : Full ns) : Full (orOf ms ns) := fun i hi => by
  rw [orOf_len] at hi
  rw [orOf_at hi, Nat.testBit_or, h i (by omega)]; simp
end Mine
end
section
open PySem PySem.W PyProof.Rows
namespace Mine
section
variable {prog : Program} {w : World} {A : Around} {E : Value → Shared → Prop} {s : Shared} {h₀ : Heap} {L : Addr} {led led0 led1 : List (Addr × Obj)}
theorem pair_eq {x y : Value} {p q : Int × Nat} (N : News h₀ L s.heap led) (hx : PairAt led x p) (hy : PairAt led y q) (hu : A.units + 2 < cLine) : SeqAt.EqAt A s x y (decide (p = q)) := by
  obtain ⟨a, u, t, n, rfl, ha⟩ := hx
  obtain ⟨b, u', t', n', rfl, hb⟩ := hy
  by_cases hab : a = b
  · subst hab
    have e := Option.some.inj ((N _ ha).1.symm.trans (N _ hb).1)
    simp only [tupO, Obj.mk.injEq, Data.seq.injEq, and_true, true_and] at e
    have e1 := e.1
    simp only [Array.mk.injEq, List.cons.injEq, Value.int.injEq, and_true] at e1
    have : p = q := Prod.ext e1.1.1 (by have := e1.2.1; omega)
    rw [decide_eq_true this]
    exact SeqAt.EqAt.same _
  · have h1 : s.heap.IsTuple a #[.int p.1 u, .int ((p.2 : Nat) : Int) t] := ⟨_, (N _ ha).1, rfl, n, rfl⟩
    have h2 : s.heap.IsTuple b #[.int q.1 u', .int ((q.2 : Nat) : Int) t'] := ⟨_, (N _ hb).1, rfl, n', rfl⟩
    have := SeqAt.RcAt.tuples (e := fun j => if j = 0 then p.1 == q.1 else ((p.2 : Nat) : Int) == ((q.2 : Nat) : Int)) h1 h2 (by omega) (A := A) fun j j1 j2 => by
      have : j = 0 ∨ j = 1 := by simp at j1; omega
      rcases this with rfl | rfl
      · exact SeqAt.EqAt.int_int _ _ _ _
      · exact SeqAt.EqAt.int_int _ _ _ _
    have e : ((List.range (min (#[Value.int p.1 u, .int ((p.2 : Nat) : Int) t]).size (#[Value.int q.1 u', .int ((q.2 : Nat) : Int) t']).size)).all (fun j => if j = 0 then p.1 == q.1 else ((p.2 : Nat) : Int) == ((q.2 : Nat) : Int)) && (#[Value.int p.1 u, .int ((p.2 : Nat) : Int) t]).size == (#[Value.int q.1 u', .int ((q.2 : Nat) : Int) t']).size) = decide (p = q) := by
      rw [Bool.eq_iff_iff]
      simp [List.range_succ, Prod.ext_iff]
      intro _; omega
    rw [e] at this
    exact SeqAt.EqAt.of_refs hab this
theorem kerNe {a b : Addr} {ps qs : List (Int × Nat)} {Q : Value → Shared → Prop} (N : News h₀ L s.heap led) (hV : KerAt led (.ref a) ps) (hW : KerAt led (.ref b) qs) (hl : ps.length = qs.length) (hu : A.units + 5 < cLine) (h : Q (.bool (decide (ps ≠ qs))) s) :
    wpAny (model prog w) A (compareOp .NotEq (.ref a) (.ref b)) Q E s := by
  obtain ⟨a', its, n, e1, ha, hz, hi⟩ := hV
  obtain ⟨b', its', n', e2, hb, hz', hi'⟩ := hW
  cases e1; cases e2
  show wpAny (model prog w) A (richCompare .NotEq (.ref a) (.ref b)) Q E s
  have hT : s.TypeIs (.ref a) "tuple" := ⟨_, (N _ ha).1, rfl⟩
  have hT' : s.TypeIs (.ref b) "tuple" := ⟨_, (N _ hb).1, rfl⟩
  have e : (!((List.range (min its.size its'.size)).all (fun j => decide (ps[j]? = qs[j]?)) && its.size == its'.size)) = decide (ps ≠ qs) := by
    rw [hz, hz', hl, Nat.min_self, beq_self_eq_true, Bool.and_true]
    by_cases h : ps = qs
    · subst h; simp
    · rw [decide_eq_true h, Bool.not_eq_true', List.all_eq_false]
      have : ∃ j, ps[j]? ≠ qs[j]? := Classical.byContradiction fun hc => h (List.ext_getElem? fun j => Classical.byContradiction fun hj => hc ⟨j, hj⟩)
      obtain ⟨j, hj⟩ := this
      refine ⟨j, List.mem_range.mpr ?_, by simpa using hj⟩
      refine Classical.byContradiction fun hge => hj ?_
      rw [List.getElem?_eq_none (by omega), List.getElem?_eq_none (by omega)]
  exact richCompare_meets_room (op := .NotEq) hT hT' PySem.F.slot_tuple_ne PySem.F.entry_tuple_ne (PySem.F.args_tuple_ne_2 _ _) (SeqAt.tuple_neAt a b its its' n n' none none #[] #[] (fun j => decide (ps[j]? = qs[j]?)))
    ⟨(N _ ha).1, (N _ hb).1, fun j h1 h2 => by
      have p1 := hi j its[j] ps[j] (Array.getElem?_eq_getElem h1) (List.getElem?_eq_getElem (by omega))
      have p2 := hi' j its'[j] qs[j] (Array.getElem?_eq_getElem h2) (List.getElem?_eq_getElem (by omega))
      have := pair_eq (A := A.in1) N p1 p2 (by simp only [units_in1]; omega)
      rw [List.getElem?_eq_getElem (show j < ps.length by omega), List.getElem?_eq_getElem (show j < qs.length by omega)]
      simpa using this, show Value.bool _ ≠ Value.notImplemented ∧ Q _ s from ⟨(fun x => nomatch x), by rw [e]; exact h⟩⟩ (by omega)
end
end Mine
end
section
open PySem PySem.W PyProof.Rows
namespace Mine
end Mine
namespace Mine
theorem disR_apart {as : List Nat} {tl led : List (Addr × Obj)} (A : Apart' tl led) (h : ∀ a ∈ as, a ∈ led.map (·.1)) : DisR as tl := fun a ha p hp e => by
  obtain ⟨q, hq, rfl⟩ := List.mem_map.mp (h a ha)
  exact A p hp q hq e.symm
theorem disR_append {as : List Nat} {r r' : List (Addr × Obj)} (h : DisR as r) (h' : DisR as r') : DisR as (r ++ r') := fun a ha p hp => by
  rcases List.mem_append.mp hp with hp | hp
  · exact h a ha p hp
  · exact h' a ha p hp
end Mine
namespace Mine
section
variable {prog : Program} {w : World} {A : Around} {h₀ : Heap} {L : Addr} {m : Str → Option Value} {env : Env} {elt ct : PySem.Expr} {x : Str} {scope : Scope} {cl : List (Str × Addr)} {s : Shared} {S : List (Addr × Obj) → Prop} {P : Nat → Value → Prop} {Fin : List Value → List (Addr × Obj) → Prop} {news : List (Addr × Obj)}
end
end Mine
namespace Mine
end Mine
namespace Mine
end Mine
end
section
open PySem PySem.W PyProof.Rows
namespace Mine
section
variable {prog : Program} {w : World} {A : Around} {E : Value → Shared → Prop} {s : Shared} {env : Env} {h₀ : Heap} {target : PySem.Expr} {body : List Stmt} {Q : Flow → Shared → Prop} {S : List (Addr × Obj)} {ms ns : List Nat} {m₀ : Str → Option Value} {x dx st ho wa iw hl cF cL cH va ax : Addr} {es : List DictEntry} {n3 : Nat} {lits : Array Value} {kx : Nat}
end
end Mine
namespace Mine
theorem disR_push {as : List Nat} {rest : List (Addr × Obj)} {c : Addr} {o : Obj} (R : DisR as rest) (h : ∀ a ∈ as, a ≠ c) : DisR as ((c, o) :: rest) := fun a ha p hp => by
  rcases List.mem_cons.mp hp with rfl | hp
  · exact Ne.symm (h a ha)
  · exact R a ha p hp
section
variable {hl l1 l2 l3 l4 x dx st ho wa iw cF cL cH : Addr} {O1 O2 O3 O4 : Obj} {rest : List (Addr × Obj)}
end
end Mine
namespace Mine
end Mine
end
section
open PySem PySem.W PyProof.Rows
namespace Mine
theorem shift {g h : Heap} {L : Addr} {tl lead rest : List (Addr × Obj)} (N : News g L h (tl ++ (lead ++ rest))) : News g L h (lead ++ (tl ++ rest)) := News.sub N fun p hp => by
  simp only [List.mem_append] at hp ⊢
  rcases hp with h | h | h <;> simp [h]
theorem shiftR {as : List Nat} {tl lead rest : List (Addr × Obj)} (A : Apart' tl (lead ++ rest)) (has : ∀ a ∈ as, a ∈ lead.map (·.1)) (R : DisR as rest) : DisR as (tl ++ rest) :=
  disR_append (disR_apart A fun a ha => by rw [List.map_append]; exact List.mem_append_left _ (has a ha)) R
end Mine
namespace Mine
section
variable {g h : Heap} {L x dx st ho wa iw hl cF cL cH I c1 s1 d1 : Addr} {ox odx ost oho owa oiw ohl o1 o2 o3 oI oc os od : Obj} {rest : List (Addr × Obj)}
end
end Mine
namespace Mine
theorem pack0 {g h : Heap} {L : Addr} {as : List Nat} {tl lead rest : List (Addr × Obj)} {r : Value} {ps : List (Int × Nat)} (N : News g L h (tl ++ (lead ++ rest))) (A : Apart' tl (lead ++ rest)) (R : DisR as rest) (K : KerAt tl r ps) (has : ∀ a ∈ as, a ∈ lead.map (·.1)) :
    ∃ rest', News g L h (lead ++ rest') ∧ DisR as rest' ∧ KerAt rest' r ps ∧ ∀ p ∈ rest, p ∈ rest' :=
  ⟨_, shift N, shiftR A has R, K.mono fun p hp => List.mem_append_left _ hp, fun p hp => List.mem_append_right _ hp⟩
section
variable {g h : Heap} {L x dx st ho wa iw hl cF cL cH I c1 s1 d1 cr : Addr} {ox odx ost oho owa oiw ohl o1 o2 o3 oI oc os od : Obj} {rest : List (Addr × Obj)} {crits hv : Array Value} {kh : Nat} {v1 v2 v3 : Option Value}
end
end Mine
namespace Mine
end Mine
namespace Mine
end Mine
namespace Mine
end Mine
end
section
open PySem PySem.W PyProof.Rows
namespace Mine
section
variable {prog : Program} {w : World} {S : List (Addr × Obj)} {ms ns : List Nat} {m₀ : Str → Option Value} {x dx st ho wa iw hl cF cL cH va ax : Addr} {es : List DictEntry} {n3 : Nat} {lits : Array Value} {kx : Nat}
end
end Mine
end
section
open PySem PySem.W PyProof.Rows
namespace Mine
section
variable {hs : List (List Nat)} {l : List Nat} {i : Nat} {ys : List Value}
end
section
variable {prog : Program} {w : World} {A : Around} {h₀ : Heap} {L : Addr} {m : Str → Option Value} {env : Env} {elt ct : PySem.Expr} {x : Str} {scope : Scope} {cl : List (Str × Addr)} {s : Shared} {S : List (Addr × Obj) → Prop} {P : Nat → Value → Prop} {Fin : List Value → List (Addr × Obj) → Prop} {news : List (Addr × Obj)}
end
end Mine
namespace Mine
end Mine
namespace Mine
end Mine
namespace Mine
end Mine
namespace Mine
end Mine
namespace Mine
end Mine
namespace Mine
section
variable {prog : Program} {w : World} {S : List (Addr × Obj)} {ms ns : List Nat} {m₀ : Str → Option Value} {x dx st ho wa iw hl cF cL cH va ax : Addr} {es : List DictEntry} {n3 : Nat} {lits : Array Value} {kx : Nat}
end
end Mine
namespace Mine
end Mine
namespace Mine
section
variable {prog : Program} {w : World} {S : List (Addr × Obj)} {ms ns : List Nat} {m₀ : Str → Option Value} {x dx st ho wa iw hl cF cL cH va ax : Addr} {es : List DictEntry} {n3 : Nat} {lits : Array Value} {kx : Nat}
end
end Mine
namespace Mine
end Mine
namespace Mine
end Mine
end
section
open PySem PySem.W PyProof.Rows
namespace Mine
theorem law_dis {P C L : Nat} {p c o1 o2 o3 : Obj} (A5 : Apart' [(P, p), (C, c)] [(L + 1 + 1 + 1, o1), (L + 1 + 1, o2), (L + 1, o3)]) (lt : C < P) : Dis [P, C, L + 1 + 1 + 1, L + 1 + 1, L + 1] := by
  have h1 := A5 (P, p) (by simp)
  have h2 := A5 (C, c) (by simp)
  refine ⟨neAll_cons (Nat.ne_of_lt lt) (neAll_cons (h1 (L + 1 + 1 + 1, o1) (by simp)) (neAll_cons (h1 (L + 1 + 1, o2) (by simp)) (neAll_cons (h1 (L + 1, o3) (by simp)) neAll_nil))), neAll_cons (h2 (L + 1 + 1 + 1, o1) (by simp)) (neAll_cons (h2 (L + 1 + 1, o2) (by simp)) (neAll_cons (h2 (L + 1, o3) (by simp)) neAll_nil)), neAll_cons (by omega) (neAll_cons (by omega) neAll_nil), neAll_cons (by omega) neAll_nil, neAll_nil, trivial⟩
theorem disR_of_neAll {a : Nat} {led : List (Addr × Obj)} (h : NeAll a (led.map (·.1))) : DisR [a] led := disR_cons (fun p hp => h _ (List.mem_map_of_mem hp)) disR_nil
structure PoolS (gr st p : Int) (b : Nat) : Prop where
  g1 : 0 ≤ gr
  g2 : gr < 10 ^ 200
  s1 : 0 ≤ st
  s2 : st < 2147483647
  p1 : 0 ≤ p
  p2 : p ≤ (b : Int)
noncomputable def LawG (bt : Bool) (sl pl cl c3 c2 c1 : Addr) (o1 o2 oP : Obj) (cits : Array Value) (ck : Nat) (i : Nat) (led : List (Addr × Obj)) : Prop :=
  ∃ (gr st p : Int) (tg ts tp : Tok) (k : Nat) (vs : Array Value) (n : Nat) (rest : List (Addr × Obj)) (ms : List Nat), led = (sl, W.listOf vs n) :: (pl, W.listOf #[.ref cl, .int gr tg, .int st ts, .int p tp] k) :: (cl, W.listOf cits ck) :: (c3, o1) :: (c2, o2) :: (c1, oP) :: rest ∧ PoolS gr st p (1 + 5 * i) ∧
    vs.size = i ∧ ms.length = i ∧ (∀ (j : Nat) (x : Value) (m : Nat), vs[j]? = some x → ms[j]? = some m → SetAt bt rest x m) ∧ DisR [sl, pl, cl, c3, c2, c1] rest
noncomputable def Drawn (ys : List Value) (us : List Nat) : Prop := us.length = ys.length ∧ ∀ (i : Nat) (v : Value), ys[i]? = some v → ∃ (u : Nat) (t : Tok), us[i]? = some u ∧ u < 5 ∧ v = Value.int (u : Int) t
theorem Drawn.nil : Drawn [] [] := ⟨rfl, fun i v e => by simp at e⟩
theorem Drawn.snoc {ys : List Value} {us : List Nat} {j : Nat} {t : Tok} (h : Drawn ys us) (hj : j < 5) : Drawn (ys ++ [.int (j : Int) t]) (us ++ [j]) := by
  refine ⟨by simp [h.1], fun i v e => ?_⟩
  rw [List.getElem?_append] at e
  rw [List.getElem?_append, h.1]
  split at e
  · rename_i hi
    rw [if_pos hi]; exact h.2 i v e
  · rename_i hi
    rw [if_neg hi]
    have e2 : i - ys.length = 0 := by have := List.getElem?_eq_some_iff.mp e; simp at this; omega
    rw [e2] at e ⊢
    cases e
    exact ⟨j, t, rfl, hj, rfl⟩
noncomputable def LawC (I : Addr) (o : Obj) (sl pl cl c3 c2 c1 : Addr) (o1 o2 oP : Obj) (cits : Array Value) (ck : Nat) (vs : Array Value) (n : Nat) (rest : List (Addr × Obj)) (b j : Nat) (ys : List Value) (led : List (Addr × Obj)) : Prop :=
  ∃ (gr st p : Int) (tg ts tp : Tok) (k : Nat) (us : List Nat), led = (I, o) :: (sl, W.listOf vs n) :: (pl, W.listOf #[.ref cl, .int gr tg, .int st ts, .int p tp] k) :: (cl, W.listOf cits ck) :: (c3, o1) :: (c2, o2) :: (c1, oP) :: rest ∧ PoolS gr st p (b + j) ∧ Drawn ys us
theorem law_pl {pl I' C D I sl cl c3 c2 c1 : Addr} {x1 x2 x3 x4 x5 x6 x7 x8 x9 : Obj} {rest : List (Addr × Obj)} (hq : pl ≠ I' ∧ pl ≠ C ∧ pl ≠ D) (q1 : pl ≠ I) (hs : pl < sl) (e : NeAll pl [cl, c3, c2, c1]) (hR : ∀ p ∈ rest, p.1 ≠ pl) :
    DisR [pl] ((I', x1) :: (C, x2) :: (D, x3) :: (I, x4) :: (sl, x5) :: (cl, x6) :: (c3, x7) :: (c2, x8) :: (c1, x9) :: rest) := by
  refine disR_cons ?_ disR_nil
  refine List.forall_mem_cons.mpr ⟨Ne.symm hq.1, List.forall_mem_cons.mpr ⟨Ne.symm hq.2.1, List.forall_mem_cons.mpr ⟨Ne.symm hq.2.2, List.forall_mem_cons.mpr ⟨Ne.symm q1, List.forall_mem_cons.mpr ⟨Nat.ne_of_gt hs, List.forall_mem_cons.mpr ⟨e _ (by simp), List.forall_mem_cons.mpr ⟨e _ (by simp), List.forall_mem_cons.mpr ⟨e _ (by simp), List.forall_mem_cons.mpr ⟨e _ (by simp), hR⟩⟩⟩⟩⟩⟩⟩⟩⟩
theorem law_front {g h : Heap} {L pl I' C D I sl : Addr} {x1 x2 x3 x4 x5 x6 : Obj} {r : List (Addr × Obj)} (N : News g L h ((I', x1) :: (C, x2) :: (D, x3) :: (I, x4) :: (sl, x5) :: (pl, x6) :: r)) : News g L h ((pl, x6) :: (I', x1) :: (C, x2) :: (D, x3) :: (I, x4) :: (sl, x5) :: r) := News.sub N fun p hp => by
  simp only [List.mem_cons] at hp ⊢
  rcases hp with h | h | h | h | h | h | h <;> simp [h]
theorem law_parts {g h : Heap} {L pl I' C D I sl : Addr} {x1 x2 x3 x4 x5 x6 x7 : Obj} {r : List (Addr × Obj)} (N : News g L h ((pl, x6) :: (I', x1) :: (C, x2) :: (D, x3) :: (I, x4) :: (sl, x5) :: r)) (off : LCg.Off3 I' C D ((I, x4) :: (sl, x5) :: (pl, x7) :: r)) :
    News g L h ((I', x1) :: (C, x2) :: (D, x3) :: (I, x4) :: (sl, x5) :: (pl, x6) :: r) ∧ LCg.Off3 I' C D ((I, x4) :: (sl, x5) :: (pl, x6) :: r) := ⟨News.sub N fun p hp => by
  simp only [List.mem_cons] at hp ⊢
  rcases hp with h | h | h | h | h | h | h <;> simp [h], off⟩
theorem law_sets {bt : Bool} {vs : Array Value} {ms : List Nat} {rest : List (Addr × Obj)} {i m : Nat} {c : Addr} {o : Obj} (hvs : vs.size = i) (hms : ms.length = i) (hset : ∀ (j : Nat) (x : Value) (m : Nat), vs[j]? = some x → ms[j]? = some m → SetAt bt rest x m) (hM : IsM bt m o) :
    ∀ (j : Nat) (x : Value) (m' : Nat), (vs.push (.ref c))[j]? = some x → (ms ++ [m])[j]? = some m' → SetAt bt ((c, o) :: rest) x m' := by
  intro j x m' e1 e2
  rw [Array.getElem?_push] at e1
  rw [List.getElem?_append] at e2
  by_cases hj : j = vs.size
  · rw [if_pos hj] at e1
    rw [if_neg (by omega)] at e2
    have h0 : j - ms.length = 0 := by omega
    rw [h0] at e2
    cases e1; cases e2
    exact ⟨c, o, rfl, List.mem_cons_self, hM⟩
  · rw [if_neg hj] at e1
    have hlt := (Array.getElem?_eq_some_iff.mp e1).1
    rw [if_pos (by omega)] at e2
    exact (hset j x m' e1 e2).mono fun p hp => List.mem_cons_of_mem _ hp
theorem law_offI {I sl pl cl c3 c2 c1 c : Addr} {x1 x2 x3 x4 x5 x6 y1 y2 o : Obj} {rest : List (Addr × Obj)} (h : ∀ p ∈ (sl, x1) :: (pl, x2) :: (cl, x3) :: (c3, x4) :: (c2, x5) :: (c1, x6) :: rest, p.1 ≠ I) (hc : I < c) :
    ∀ p ∈ (sl, y1) :: (pl, y2) :: (cl, x3) :: (c3, x4) :: (c2, x5) :: (c1, x6) :: (c, o) :: rest, p.1 ≠ I := by
  obtain ⟨h1, h⟩ := List.forall_mem_cons.mp h
  obtain ⟨h2, h⟩ := List.forall_mem_cons.mp h
  obtain ⟨h3, h⟩ := List.forall_mem_cons.mp h
  obtain ⟨h4, h⟩ := List.forall_mem_cons.mp h
  obtain ⟨h5, h⟩ := List.forall_mem_cons.mp h
  obtain ⟨h6, h⟩ := List.forall_mem_cons.mp h
  exact List.forall_mem_cons.mpr ⟨h1, List.forall_mem_cons.mpr ⟨h2, List.forall_mem_cons.mpr ⟨h3, List.forall_mem_cons.mpr ⟨h4, List.forall_mem_cons.mpr ⟨h5, List.forall_mem_cons.mpr ⟨h6, List.forall_mem_cons.mpr ⟨Nat.ne_of_gt hc, h⟩⟩⟩⟩⟩⟩⟩
theorem pick_upto {vs : Array Value} {c : Nat} : slicePick vs none (some (c : Int)) none = (vs.toList.take c).toArray := by
  rw [kms_pick_eq]
  simp only [kms_pick, kms_lo, kms_hi]
  rw [if_neg (by omega), List.drop_zero, Nat.sub_zero, Int.toNat_natCast, kmk_take_min]
theorem pick_from {vs : Array Value} {c : Nat} : slicePick vs (some (c : Int)) none none = (vs.toList.drop c).toArray := by
  rw [kms_pick_eq]
  simp only [kms_pick, kms_lo, kms_hi]
  rw [if_neg (by omega), Int.toNat_natCast, kmk_drop_min, List.take_of_length_le (by rw [List.length_drop]; omega)]
section
variable {bt : Bool} {vs : Array Value} {ms : List Nat} {rest led : List (Addr × Obj)} {c n : Nat} {D : Addr}
theorem sets_take (hm : (D, W.listOf (vs.toList.take c).toArray n) ∈ led) (hvs : vs.size = 2 * c) (hms : ms.length = 2 * c) (hset : ∀ (j : Nat) (x : Value) (m : Nat), vs[j]? = some x → ms[j]? = some m → SetAt bt rest x m) (hs : ∀ p ∈ rest, p ∈ led) : SetsAt bt led (.ref D) (ms.take c) := by
  refine ⟨D, _, n, rfl, hm, ?_, fun i x m h1 h2 => ?_⟩
  · rw [List.size_toArray, List.length_take, List.length_take, Array.length_toList]; omega
  · rw [List.getElem?_toArray, List.getElem?_take] at h1
    rw [List.getElem?_take] at h2
    split at h1
    · rw [if_pos (by assumption)] at h2
      rw [Array.getElem?_toList] at h1
      exact (hset i x m h1 h2).mono hs
    · cases h1
theorem sets_drop (hm : (D, W.listOf (vs.toList.drop c).toArray n) ∈ led) (hvs : vs.size = 2 * c) (hms : ms.length = 2 * c) (hset : ∀ (j : Nat) (x : Value) (m : Nat), vs[j]? = some x → ms[j]? = some m → SetAt bt rest x m) (hs : ∀ p ∈ rest, p ∈ led) : SetsAt bt led (.ref D) (ms.drop c) := by
  refine ⟨D, _, n, rfl, hm, ?_, fun i x m h1 h2 => ?_⟩
  · rw [List.size_toArray, List.length_drop, List.length_drop, Array.length_toList]; omega
  · rw [List.getElem?_toArray, List.getElem?_drop, Array.getElem?_toList] at h1
    rw [List.getElem?_drop] at h2
    exact (hset _ x m h1 h2).mono hs
end
theorem law_rest {bt : Bool} {g h : Heap} {L T D1 D2 sl pl cl c3 c2 c1 : Addr} {tO xs xp xc p1 p2 p3 : Obj} {vs : Array Value} {ms : List Nat} {rest : List (Addr × Obj)} {c n1 n2 : Nat}
    (N : News g L h ((T, tO) :: (D2, W.listOf (vs.toList.drop c).toArray n2) :: (D1, W.listOf (vs.toList.take c).toArray n1) :: (sl, xs) :: (pl, xp) :: (cl, xc) :: (c3, p3) :: (c2, p2) :: (c1, p1) :: rest))
    (hvs : vs.size = 2 * c) (hms : ms.length = 2 * c) (hset : ∀ (j : Nat) (x : Value) (m : Nat), vs[j]? = some x → ms[j]? = some m → SetAt bt rest x m) :
    ∃ rest', News g L h ((c3, p3) :: (c2, p2) :: (c1, p1) :: rest') ∧ SetsAt bt rest' (.ref D1) (ms.take c) ∧ SetsAt bt rest' (.ref D2) (ms.drop c) := by
  refine ⟨(D2, W.listOf (vs.toList.drop c).toArray n2) :: (D1, W.listOf (vs.toList.take c).toArray n1) :: rest, News.sub N fun p hp => ?_, sets_take (List.mem_cons_of_mem _ List.mem_cons_self) hvs hms hset (fun p hp => List.mem_cons_of_mem _ (List.mem_cons_of_mem _ hp)), sets_drop List.mem_cons_self hvs hms hset (fun p hp => List.mem_cons_of_mem _ (List.mem_cons_of_mem _ hp))⟩
  simp only [List.mem_cons] at hp ⊢
  rcases hp with h | h | h | h | h | h <;> simp [h]
section
variable {prog : Program} {w : World} {A : Around} {E : Value → Shared → Prop} {s : Shared} {b : Bool} {Q : Value → Shared → Prop}
end
section
variable {prog : Program} {w : World} {A : Around} {E : Value → Shared → Prop} {s : Shared} {h₀ : Heap} {L : Addr} {mm : Str → Option Value} {led led0 : List (Addr × Obj)}
end
end Mine
end
section
open PySem PySem.W PyProof.Rows
namespace Mine
noncomputable def mval (ρ : Nat → Nat) : List Nat → Nat
  | [] => 0
  | i :: r => ρ i ||| mval ρ r
noncomputable def hasN (i : Nat) : List Nat → Bool
  | [] => false
  | j :: r => Nat.beq i j || hasN i r
noncomputable def join (a : List Nat) : List Nat → List Nat
  | [] => a
  | i :: r => join (bif hasN i a then a else a ++ [i]) r
inductive BI where
  | len | list | tuple | range | set
noncomputable def BI.v : BI → Value
  | .len => .builtin "len"
  | .list => .type "list"
  | .tuple => .type "tuple"
  | .range => .type "range"
  | .set => .type "set"
inductive BM where
  | append | extend | index | get | setd
noncomputable def BM.id : BM → String
  | .append => "list.append"
  | .extend => "list.extend"
  | .index => "list.index"
  | .get => "dict.get"
  | .setd => "dict.setdefault"
set_option genSizeOf false
set_option genInjectivity false
inductive SV where
  | int (k : Int) | msk (e : List Nat) | str (s : Str) | bool (b : Bool) | none | loc (i : Nat) | tup (vs : List SV) | set (e : List Nat) | bi (b : BI) | fix (v : Value)
inductive SO where
  | list (vs : List SV) | inst (C : Addr) (d : Nat) | dict (fs : List (Str × SV)) | homes (xs : List (List Int × SV)) | cell (v : Option SV) | gone
structure SS where
  loc : List (Str × SV)
  os : List SO
structure SG where
  names : List (Str × NameKind)
  cells : List (Str × Nat)
  own : Option (Str × SV)
  d : Nat
inductive SF where
  | next | ret (v : SV)
structure SP where
  K : Frag
  tab : List (Addr × Nat)
  gl : Str → Option Value
  atr : Addr → Str → Bool
  meth : Addr → Str → Option Addr
  mak : Addr → Option Addr
  pr : Addr → List SV → SS → Option (SV × SS)
structure RC where
  e : SG → PySem.Expr → SS → Option (SV × SS)
  t : SG → PySem.Expr → SS → Option (Bool × SS)
  s : SG → Stmt → SS → Option (SF × SS)
  w : SG → PySem.Expr → List Stmt → SS → Option (SF × SS)
noncomputable def natsEq : List Nat → List Nat → Bool
  | [], [] => true
  | a :: x, b :: y => Nat.beq a b && natsEq x y
  | _, _ => false
noncomputable def strEq (a b : Str) : Bool := natsEq a.cps.toList b.cps.toList
noncomputable def lookS {α : Type} (x : Str) (l : List (Str × α)) : Option α := List.rec (motive := fun _ => Option α) none (fun p _ ih => bif strEq x p.1 then some p.2 else ih) l
noncomputable def putS {α : Type} (x : Str) (v : α) : List (Str × α) → List (Str × α)
  | [] => [(x, v)]
  | p :: r => bif strEq x p.1 then (p.1, v) :: r else p :: putS x v r
noncomputable def nth {α : Type} (l : List α) : Nat → Option α := List.rec (motive := fun _ => Nat → Option α) (fun _ => none) (fun a _ ih i => Nat.casesOn (motive := fun _ => Option α) i (some a) ih) l
noncomputable def setN {α : Type} (l : List α) : Nat → α → List α := List.rec (motive := fun _ => Nat → α → List α) (fun _ _ => []) (fun a l ih i b => Nat.casesOn (motive := fun _ => List α) i (b :: l) (fun n => a :: ih n b)) l
noncomputable def chk {α : Type} (b : Bool) (k : Option α) : Option α := bif b then k else none
noncomputable def bnd {α β : Type} (o : Option α) (f : α → Option β) : Option β := o.bind f
@[irreducible] noncomputable def bn2 {α β γ : Type} (o : Option (α × β)) (f : α → β → Option γ) : Option γ := o.bind fun q => f q.1 q.2
noncomputable def isS {α : Type} (o : Option α) (f : α → Bool) : Bool := match o with | some a => f a | none => false
noncomputable def isLocal (k : Option NameKind) : Bool := k == some .local
noncomputable def isCell (k : Option NameKind) : Bool := k == some .cell
noncomputable def asLoc : SV → Option Nat | .loc i => some i | _ => none
noncomputable def asInt : SV → Option Int | .int k => some k | _ => none
noncomputable def asStr : SV → Option Str | .str k => some k | _ => none
noncomputable def asSet : SV → Option (List Nat) | .set e => some e | _ => none
noncomputable def asBool : SV → Option Bool | .bool e => some e | _ => none
noncomputable def oList : SO → Option (List SV) | .list vs => some vs | _ => none
noncomputable def oInst : SO → Option (Addr × Nat) | .inst C d => some (C, d) | _ => none
noncomputable def oDict : SO → Option (List (Str × SV)) | .dict fs => some fs | _ => none
noncomputable def oHomes : SO → Option (List (List Int × SV)) | .homes fs => some fs | _ => none
noncomputable def oCell : SO → Option (Option SV) | .cell v => some v | _ => none
noncomputable def oGone : SO → Bool | .gone => true | _ => false
noncomputable def ofV : Value → SV
  | .int k _ => .int k
  | .str s _ => .str s
  | .bool b => .bool b
  | .none => .none
  | v => .fix v
noncomputable def SS.push (σ : SS) (o : SO) : SS := { σ with os := σ.os ++ [o] }
noncomputable def SS.set (σ : SS) (i : Nat) (o : SO) : SS := { σ with os := setN σ.os i o }
noncomputable def SS.nxt (σ : SS) : SV := .loc σ.os.length
noncomputable def SS.list (σ : SS) (v : SV) : Option (Nat × List SV) := bnd (asLoc v) fun i => bnd (nth σ.os i) fun o => bnd (oList o) fun vs => some (i, vs)
noncomputable def bltn (x : Str) : Option BI :=
  lookS x [(Str.ofString "len", .len), (Str.ofString "list", .list), (Str.ofString "tuple", .tuple), (Str.ofString "range", .range), (Str.ofString "set", .set)]
noncomputable def kindS (Γ : SG) (x : Str) : Option NameKind := lookS x Γ.names
noncomputable def lookN (P : SP) (Γ : SG) (x : Str) (σ : SS) : Option SV :=
  match kindS Γ x with
  | some .local => match Γ.own with
    | none => lookS x σ.loc
    | some q => chk (strEq x q.1) (some q.2)
  | some .cell => bnd (lookS x Γ.cells) fun i => bnd (nth σ.os i) fun o => bnd (oCell o) id
  | some .globalImplicit => match P.gl x with
    | some v => some (ofV v)
    | none => bnd (bltn x) fun b => some (.bi b)
  | _ => none
noncomputable def storeS (Γ : SG) (x : Str) (v : SV) (σ : SS) : Option SS :=
  chk Γ.own.isNone (match kindS Γ x with
    | some .local => some { σ with loc := putS x v σ.loc }
    | some .cell => bnd (lookS x Γ.cells) fun i => bnd (nth σ.os i) fun o => bnd (oCell o) fun _ => some (σ.set i (.cell (some v)))
    | _ => none)
noncomputable def isStar : PySem.Expr → Bool | .Starred .. => true | _ => false
noncomputable def isSlice : PySem.Expr → Bool | .Slice .. => true | _ => false
noncomputable def isCall : PySem.Expr → Bool | .Call .. => true | _ => false
noncomputable def isSup : PySem.Expr → Bool | .Call (.Name ..) _ _ _ => true | _ => false
noncomputable def isComp : PySem.Expr → Bool | .ListComp .. => true | .SetComp .. => true | .DictComp .. => true | _ => false
inductive EV where
  | name (x : Str) | attr (o : PySem.Expr) (n : Str) | cmp (l : PySem.Expr) (ops : List CmpOp) (ms : List PySem.Expr) | cst (c : Const) | other
noncomputable def view : PySem.Expr → EV
  | .Name x _ => .name x
  | .Attribute o n _ => .attr o n
  | .Compare l ops ms _ => .cmp l ops ms
  | .Constant c _ _ => .cst c
  | _ => .other
noncomputable def vName : EV → Option Str | .name x => some x | _ => none
noncomputable def vAttr : EV → Option (PySem.Expr × Str) | .attr o n => some (o, n) | _ => none
noncomputable def vCmp : EV → Option (PySem.Expr × List CmpOp × List PySem.Expr) | .cmp l ops ms => some (l, ops, ms) | _ => none
noncomputable def vCst : EV → Option Const | .cst c => some c | _ => none
noncomputable def asName (e : PySem.Expr) : Option Str := vName (view e)
noncomputable def isName : PySem.Expr → Bool | .Name .. => true | _ => false
noncomputable def notSet : PySem.Expr → Bool | .Set .. => false | _ => true
noncomputable def evL (r : RC) (Γ : SG) : List PySem.Expr → SS → Option (List SV × SS)
  | [], σ => some ([], σ)
  | e :: es, σ => chk (!isStar e) (bn2 (r.e Γ e σ) fun v σ1 => bn2 (evL r Γ es σ1) fun vs σ2 => some (v :: vs, σ2))
noncomputable def handS : SV → Bool | .fix _ => false | .bi _ => false | _ => true
noncomputable def instS (v : SV) (σ : SS) : Option (Nat × Addr × Nat × List (Str × SV)) :=
  bnd (asLoc v) fun i => bnd (nth σ.os i) fun o => bnd (oInst o) fun q => bnd (nth σ.os q.2) fun p => bnd (oDict p) fun fs => some (i, q.1, q.2, fs)
noncomputable def getA (P : SP) (v : SV) (name : Str) (σ : SS) : Option SV :=
  bnd (instS v σ) fun q => chk (P.atr q.2.1 name) (bnd (lookS name q.2.2.2) fun y => chk (handS y) (some y))
noncomputable def setA (P : SP) (v : SV) (name : Str) (y : SV) (σ : SS) : Option SS :=
  bnd (instS v σ) fun q => chk (P.atr q.2.1 name && Nat.ble q.2.2.2.length 50) (some (σ.set q.2.2.1 (.dict (putS name y q.2.2.2))))
noncomputable def small (k : Int) : Bool := match k with | .ofNat n => Nat.ble n 1000 | _ => false
noncomputable def itemS (v iv : SV) (σ : SS) : Option SV :=
  bnd (asInt iv) fun k => chk (small k) (match v with
    | .tup vs => nth vs k.toNat
    | v => bnd (σ.list v) fun q => nth q.2 k.toNat)
noncomputable def setI (v iv y : SV) (σ : SS) : Option SS :=
  bnd (asInt iv) fun k => chk (small k) (bnd (σ.list v) fun q => bnd (nth q.2 k.toNat) fun _ => some (σ.set q.1 (.list (setN q.2 k.toNat y))))
noncomputable def allOf {α : Type} (f : SV → Option α) : List SV → Option (List α)
  | [] => some []
  | v :: r => bnd (f v) fun s => bnd (allOf f r) fun l => some (s :: l)
noncomputable def anyStr (x : Str) : List Str → Bool
  | [] => false
  | y :: r => strEq x y || anyStr x r
noncomputable def idxStr (x : Str) : List Str → Option Nat
  | [] => none
  | y :: r => bif strEq x y then some 0 else bnd (idxStr x r) fun i => some (i + 1)
noncomputable def intsEq : List Int → List Int → Bool
  | [], [] => true
  | a :: x, b :: y => decide (a = b) && intsEq x y
  | _, _ => false
noncomputable def atInts {α : Type} (x : List Int) : List (List Int × α) → Option α
  | [] => none
  | p :: r => bif intsEq x p.1 then some p.2 else atInts x r
noncomputable def asTup : SV → Option (List SV) | .tup vs => some vs | _ => none
noncomputable def asMsk : SV → Option (List Nat) | .msk e => some e | _ => none
noncomputable def one {α : Type} : List α → Option α | [a] => some a | _ => none
noncomputable def two {α : Type} : List α → Option (α × α) | [a, b] => some (a, b) | _ => none
noncomputable def asPair (v : SV) : Option (Int × List Nat) := bnd (asTup v) fun vs => bn2 (two vs) fun a b => bnd (asInt a) fun k => bnd (asMsk b) fun e => some (k, e)
noncomputable def asKer (v : SV) : Option (List (Int × List Nat)) := bnd (asTup v) (allOf asPair)
noncomputable def meqs : List (List Nat) → List (List Nat) → Bool
  | [], [] => true
  | a :: l, b :: m => natsEq a b && meqs l m
  | _, _ => false
noncomputable def ble1000 (n : Nat) : Bool := Nat.ble n 1000
noncomputable def addS (a b : SV) (σ : SS) : Option (SV × SS) :=
  match a, b with
  | .int x, .int y => some (.int (x + y), σ)
  | a, b => bnd (σ.list a) fun p => bnd (σ.list b) fun q => chk (ble1000 (p.2.length + q.2.length)) (some (σ.nxt, σ.push (.list (p.2 ++ q.2))))
noncomputable def orS (a b : SV) (σ : SS) : Option (SV × SS) :=
  match a, b with
  | .msk x, .msk y => some (.msk (join x y), σ)
  | .int x, .int y => some (.int (Builtin.bitOr x y), σ)
  | .set x, .set y => some (.set (join x y), σ)
  | _, _ => none
noncomputable def binS (op : Operator) (a b : SV) (σ : SS) : Option (SV × SS) :=
  match op with
  | .Add => addS a b σ
  | .Sub => bnd (asInt a) fun x => bnd (asInt b) fun y => some (.int (x - y), σ)
  | .BitOr => orS a b σ
  | .LShift => bnd (asInt a) fun x => bnd (asInt b) fun y => chk (small x && small y) (some (.int (x * 2 ^ y.toNat), σ))
  | .Mult => bnd (σ.list a) fun p => bnd (asInt b) fun k => chk (small k && Nat.ble (p.2.length * k.toNat) 256) (some (σ.nxt, σ.push (.list (List.flatten (List.replicate k.toNat p.2)))))
  | _ => none
noncomputable def asData : SV → Option PyData | .int k => some (.int k) | .str k => some (.str k) | _ => none
noncomputable def eqS (a b : SV) (σ : SS) : Option Bool :=
  match a, b with
  | .int x, .int y => some (decide (x = y))
  | .str x, .str y => some (strEq x y)
  | .bool x, .bool y => some (x == y)
  | a, b => bnd (σ.list a) fun p => bnd (σ.list b) fun q => bnd (allOf asData p.2) fun ds => chk (q.2.isEmpty && PySem.SeqAt.shaped (.list ds)) (some ds.isEmpty)
noncomputable def cmpS (P : SP) (op : CmpOp) (a b : SV) (σ : SS) : Option Bool :=
  match op with
  | .Lt => bnd (asInt a) fun x => bnd (asInt b) fun y => some (decide (x < y))
  | .LtE => bnd (asInt a) fun x => bnd (asInt b) fun y => some (decide (x ≤ y))
  | .GtE => bnd (asInt a) fun x => bnd (asInt b) fun y => some (decide (y ≤ x))
  | .Eq => eqS a b σ
  | .NotEq => match a with
    | .int x => bnd (asInt b) fun y => some (x != y)
    | .bool x => bnd (asBool b) fun y => some (x != y)
    | a => bnd (asKer a) fun ps => bnd (asKer b) fun qs => chk (intsEq (ps.map (·.1)) (qs.map (·.1)) && meqs (ps.map (·.2)) (qs.map (·.2)) && Nat.ble ps.length 8) (some false)
  | .In => match a, b with
    | .str x, .tup vs => bnd (allOf asStr vs) fun ys => some (anyStr x ys)
    | _, _ => none
  | .NotIn => bnd (asStr a) fun x => bnd (σ.list b) fun q => bnd (allOf asStr q.2) fun ys => some (!anyStr x ys)
  | .IsNot => match a, b with
    | .none, .none => some false
    | _, _ => none
  | _ => none
noncomputable def fnAt (K : Frag) (f : Addr) : Option FuncData := match K.lookup f with
  | some ⟨_, _, .func fd, _⟩ => some fd
  | _ => none
noncomputable def dfltsOf (K : Frag) (fd : FuncData) : List Value := match fd.defaults with
  | .ref T => match K.lookup T with
    | some ⟨_, _, .seq items _, _⟩ => items.toList
    | _ => []
  | _ => []
noncomputable def bindS (K : Frag) (fd : FuncData) (vs : List SV) : List (Str × SV) :=
  let ns := fd.params.args.map (·.arg)
  let ds := (dfltsOf K fd).map ofV
  ns.zip (vs ++ ds.drop (ds.length + vs.length - ns.length))
noncomputable def okPair (f : Addr) (n : Nat) : List (Addr × Nat) → Bool
  | [] => false
  | p :: r => (Nat.beq p.1 f && Nat.beq p.2 n) || okPair f n r
noncomputable def cellNames : List (Str × NameKind) → List Str
  | [] => []
  | p :: r => bif isCell (some p.2) then p.1 :: cellNames r else cellNames r
noncomputable def nodupS : List Str → Bool
  | [] => true
  | x :: r => !anyStr x r && nodupS r
noncomputable def numbered (n : Nat) : List Str → List (Str × Nat)
  | [] => []
  | x :: r => (x, n) :: numbered (n + 1) r
noncomputable def evB (r : RC) (Γ : SG) : List Stmt → SS → Option (SF × SS)
  | [], σ => some (.next, σ)
  | s :: ss, σ => bn2 (r.s Γ s σ) fun f σ1 => match f with
    | .next => evB r Γ ss σ1
    | .ret v => some (.ret v, σ1)
noncomputable def flV : SF → SV | .next => .none | .ret v => v
noncomputable def callB (r : RC) (d : Nat) (scope : Scope) (body : List Stmt) (bs : List (Str × SV)) (σ : SS) : Option (SV × SS) :=
  chk (!scope.isCoroutine && !scope.isGenerator && scope.kind == .function && bs.all (fun b => isLocal (lookS b.1 scope.names) || isCell (lookS b.1 scope.names)) && nodupS (cellNames scope.names) && (cellNames scope.names).all fun x => isCell (lookS x scope.names))
    (bn2 (evB r ⟨scope.names, numbered σ.os.length (cellNames scope.names), none, d⟩ body ⟨bs.reverse.filter fun b => isLocal (lookS b.1 scope.names), σ.os ++ (cellNames scope.names).map fun x => .cell (lookS x bs.reverse)⟩) fun fl σ1 => some (flV fl, ⟨σ.loc, σ1.os⟩))
noncomputable def callF (P : SP) (r : RC) (d : Nat) (f : Addr) (vs : List SV) (σ : SS) : Option (SV × SS) :=
  match d with
  | 0 => none
  | d + 1 => bnd (fnAt P.K f) fun fd => chk (okPair f vs.length P.tab) (match fd with
    | ⟨_, qual, _, .stmts body, scope, gl, [], _, _, _, _, _, cdv, _, bl⟩ => chk (Nat.beq gl mainGlobals && Nat.beq bl builtinsNs && codeIn P.K cdv qual) (callB r d scope body (bindS P.K fd vs) σ)
    | _ => none)
noncomputable def tupK (K : Frag) (a : Addr) : Option (List Value) := match K.lookup a with
  | some ⟨.type c, _, .seq items _, _⟩ => chk (decide (c = "tuple")) (some items.toList)
  | _ => none
noncomputable def callBI (P : SP) (b : BI) (x : SV) (σ : SS) : Option (SV × SS) :=
  match b, x with
  | .len, .tup vs => chk (ble1000 vs.length) (some (.int (vs.length : Nat), σ))
  | .list, .tup vs => chk (ble1000 vs.length) (some (σ.nxt, σ.push (.list vs)))
  | .list, .fix (.ref a) => bnd (tupK P.K a) fun xs => chk (ble1000 xs.length) (some (σ.nxt, σ.push (.list (xs.map ofV))))
  | .len, x => bnd (σ.list x) fun q => chk (ble1000 q.2.length) (some (.int (q.2.length : Nat), σ))
  | .list, x => bnd (σ.list x) fun q => chk (ble1000 q.2.length) (some (σ.nxt, σ.push (.list q.2)))
  | .tuple, x => bnd (σ.list x) fun q => chk (ble1000 q.2.length) (some (.tup q.2, σ))
  | .set, x => bnd (σ.list x) fun q => bnd (one q.2) fun y => bnd (asInt y) fun k => chk (decide (k = 4)) (some (.set [100], σ))
  | _, _ => none
noncomputable def callBM (b : BM) (i : Nat) (o : SO) (vs : List SV) (σ : SS) : Option (SV × SS) :=
  match b with
  | .append => bnd (oList o) fun xs => bnd (one vs) fun x => chk (ble1000 xs.length) (some (.none, σ.set i (.list (xs ++ [x]))))
  | .extend => bnd (oList o) fun xs => bnd (one vs) fun y => bnd (σ.list y) fun q => chk (!q.2.isEmpty && ble1000 (xs.length + q.2.length)) (some (.none, σ.set i (.list (xs ++ q.2))))
  | .index => bnd (oList o) fun xs => bnd (one vs) fun y => bnd (asStr y) fun s => bnd (allOf asStr xs) fun ys => bnd (idxStr s ys) fun k => chk (ble1000 ys.length) (some (.int (k : Nat), σ))
  | .get => bnd (oHomes o) fun hs => bn2 (two vs) fun k x => bnd (asTup k) fun ks => bnd (allOf asInt ks) fun ns => match atInts ns hs with
    | some q => some (q, σ)
    | none => some (x, σ)
  | .setd => bnd (oHomes o) fun hs => bn2 (two vs) fun k x => bnd (asTup k) fun ks => bnd (allOf asInt ks) fun ns => chk (Nat.ble hs.length 100) (match atInts ns hs with
    | some q => some (q, σ)
    | none => some (x, σ.set i (.homes (hs ++ [(ns, x)]))))
noncomputable def callR (P : SP) (r : RC) (d : Nat) (a : Addr) (vs : List SV) (σ : SS) : Option (SV × SS) :=
  match P.mak a with
  | some fI => bn2 (callF P r d fI (.loc (σ.os.length + 1) :: vs) ⟨σ.loc, σ.os ++ [.dict [], .inst a σ.os.length]⟩) fun v σ1 => match v with
    | .none => some (.loc (σ.os.length + 1), σ1)
    | _ => none
  | none => match P.pr a vs σ with
    | some q => chk (Nat.ble 8 d) (some q)
    | none => callF P r d a vs σ
noncomputable def methB (name : Str) : SO → Option BM
  | .list _ => bif strEq name (Str.ofString "append") then some .append else bif strEq name (Str.ofString "extend") then some .extend else bif strEq name (Str.ofString "index") then some .index else none
  | .homes _ => bif strEq name (Str.ofString "setdefault") then some .setd else bif strEq name (Str.ofString "get") then some .get else none
  | _ => none
inductive SrcS where
  | at (i : Nat) (vs : List SV)
  | tup (vs : List SV)
  | rng (n : Nat)
noncomputable def intsFrom : Nat → Nat → List SV
  | _, 0 => []
  | k, n + 1 => .int (k : Nat) :: intsFrom (k + 1) n
noncomputable def SrcS.items : SrcS → List SV
  | .at _ vs => vs
  | .tup vs => vs
  | .rng n => intsFrom 0 n
noncomputable def SrcS.hide : SrcS → SS → SS
  | .at i _, σ => σ.set i .gone
  | _, σ => σ
noncomputable def SrcS.back : SrcS → SS → Option SS
  | .at i vs, σ => bnd (nth σ.os i) fun p => chk (oGone p) (some (σ.set i (.list vs)))
  | _, σ => some σ
noncomputable def SrcS.isTup : SrcS → Bool | .tup _ => true | _ => false
noncomputable def SrcS.isRng : SrcS → Bool | .rng _ => true | _ => false
noncomputable def notDebug (x : Str) : Bool := !strEq x (Str.ofString "__debug__")
noncomputable def asBI : SV → Option BI | .bi b => some b | _ => none
noncomputable def isRg : BI → Bool | .range => true | _ => false
noncomputable def isRange (o : Option SV) : Bool := isS o fun v => isS (asBI v) isRg
noncomputable def srcP (r : RC) (Γ : SG) (e : PySem.Expr) (σ : SS) : Option (SrcS × SS) :=
  bn2 (r.e Γ e σ) fun v σ1 => match v with
    | .tup vs => chk (ble1000 vs.length) (some (.tup vs, σ1))
    | v => bnd (σ1.list v) fun q => chk (ble1000 q.2.length) (some (.at q.1 q.2, σ1))
noncomputable def srcE (P : SP) (r : RC) (Γ : SG) (e : PySem.Expr) (σ : SS) : Option (SrcS × SS) :=
  match e with
  | .Call f args ks _ => match f, args, ks with
    | .Name x _, [a], [] => bif notDebug x && isRange (lookN P Γ x σ) then chk (!isStar a) (bn2 (r.e Γ a σ) fun v σ1 => bnd (asInt v) fun k => chk (small k) (some (.rng k.toNat, σ1))) else srcP r Γ e σ
    | _, _, _ => srcP r Γ e σ
  | _ => srcP r Γ e σ
noncomputable def assignT (Γ : SG) (target : PySem.Expr) (v : SV) (σ : SS) : Option SS :=
  match target with
  | .Name x _ => storeS Γ x v σ
  | .Tuple es _ _ => bn2 (two es) fun e1 e2 => bnd (asName e1) fun x => bnd (asName e2) fun y => bnd (asTup v) fun vs => bn2 (two vs) fun a b => bnd (storeS Γ x a σ) fun σ1 => storeS Γ y b σ1
  | _ => none
noncomputable def forS (r : RC) (Γ : SG) (target : PySem.Expr) (body : List Stmt) : List SV → SS → Option (SF × SS)
  | [], σ => some (.next, σ)
  | v :: vs, σ => bnd (assignT Γ target v σ) fun σ1 => bn2 (evB r Γ body σ1) fun f σ2 => match f with
    | .next => forS r Γ target body vs σ2
    | .ret v => some (.ret v, σ2)
noncomputable def isFree (k : NameKind) : Bool := k == .free
noncomputable def reNames (Γ : SG) (l : List (Str × NameKind)) : List (Str × NameKind) := l.map fun p => bif isFree p.2 && isCell (kindS Γ p.1) then (p.1, .cell) else p
noncomputable def reCells (Γ : SG) : List (Str × NameKind) → List (Str × Nat) → Option (List (Str × Nat))
  | [], acc => some acc
  | p :: r, acc => bif isFree p.2 then bnd (lookS p.1 Γ.cells) fun i => reCells Γ r ((p.1, i) :: acc) else reCells Γ r acc
noncomputable def scopeOk (x : Str) (scope : Scope) : Bool :=
  scope.names.all (fun p => !isCell (some p.2)) && scope.kind == .function && scope.names.all (fun p => !isLocal (some p.2) || isLocal (lookS p.1 scope.names)) && isLocal (lookS x scope.names)
noncomputable def compS (r : RC) (Γ : SG) (elt : PySem.Expr) (ifs : List PySem.Expr) (x : Str) : List SV → List SV → SS → Option (List SV × SS)
  | [], ys, σ => some (ys, σ)
  | v :: vs, ys, σ => match ifs with
    | [] => bn2 (r.e { Γ with own := some (x, v) } elt σ) fun y σ1 => compS r Γ elt ifs x vs (ys ++ [y]) σ1
    | [t] => bn2 (r.t { Γ with own := some (x, v) } t σ) fun b σ0 => bif b then bn2 (r.e { Γ with own := some (x, v) } elt σ0) fun y σ1 => compS r Γ elt ifs x vs (ys ++ [y]) σ1 else compS r Γ elt ifs x vs ys σ0
    | _ => none
noncomputable def compE (P : SP) (r : RC) (Γ : SG) (ok : SrcS → Bool) (elt : PySem.Expr) (x : Str) (iter : PySem.Expr) (ifs : List PySem.Expr) (scope : Scope) (σ : SS) : Option (SV × SS) :=
  chk (scopeOk x scope && notSet iter) (bnd (reCells Γ scope.names []) fun cl => bn2 (srcE P r Γ iter σ) fun src σ1 => chk (ok src)
    (bn2 (compS r ⟨reNames Γ scope.names, cl, none, Γ.d⟩ elt ifs x src.items [] (src.hide σ1)) fun ys σ2 => bnd (src.back σ2) fun σ3 => some (σ3.nxt, σ3.push (.list ys))))
noncomputable def asCst (e : PySem.Expr) : Option Const := vCst (view e)
noncomputable def cInt : Const → Option Int | .int k => some k | _ => none
noncomputable def isOne (o : Option PySem.Expr) : Bool := isS o fun e => isS (asCst e) fun c => isS (cInt c) fun k => decide (k = 1)
noncomputable def upto1 : PySem.Expr → Bool
  | .Slice a b c _ => a.isNone && isOne b && c.isNone
  | _ => false
noncomputable def compG (gs : List Comprehension) : Option (Str × PySem.Expr × List PySem.Expr) := bnd (one gs) fun g => match g with
  | ⟨t, iter, ifs, a⟩ => chk (decide (a = 0)) (bnd (asName t) fun x => some (x, iter, ifs))
noncomputable def constS (c : Const) (σ : SS) : Option (SV × SS) :=
  match c with
  | .int k => some (.int k, σ)
  | .str s => some (.str s, σ)
  | .bool b => some (.bool b, σ)
  | .none => some (.none, σ)
  | _ => none
noncomputable def methS (P : SP) (r : RC) (d : Nat) (v : SV) (name : Str) (noArgs : Bool) (vs : List SV) (σ1 σ2 : SS) : Option (SV × SS) :=
  bnd (asLoc v) fun i => bnd (nth σ1.os i) fun o => match methB name o with
    | some b => chk (!noArgs) (bnd (nth σ2.os i) fun o2 => callBM b i o2 vs σ2)
    | none => bnd (instS v σ1) fun q => chk (lookS name q.2.2.2).isNone (bnd (P.meth q.2.1 name) fun f => callR P r d f (v :: vs) σ2)
noncomputable def callV (P : SP) (r : RC) (d : Nat) (f : SV) (vs : List SV) (σ : SS) : Option (SV × SS) :=
  match f with
  | .bi b => match vs with
    | [x] => callBI P b x σ
    | [] => match b with
      | .set => some (.set [], σ)
      | _ => none
    | _ => none
  | .fix (.ref a) => callR P r d a vs σ
  | _ => none
noncomputable def evCall (P : SP) (r : RC) (Γ : SG) (func : PySem.Expr) (args : List PySem.Expr) (pos : Pos) (σ : SS) : Option (SV × SS) :=
  match func with
  | .Attribute o name apos => chk (!isSup o && Nat.beq apos.endLine pos.line && Nat.ble args.length 8)
    (bn2 (r.e Γ o σ) fun v σ1 => bn2 (evL r Γ args σ1) fun vs σ2 => methS P r Γ.d v name args.isEmpty vs σ1 σ2)
  | func => bn2 (r.e Γ func σ) fun f σ1 => bn2 (evL r Γ args σ1) fun vs σ2 => callV P r Γ.d f vs σ2
noncomputable def evBool (r : RC) (Γ : SG) (op : BoolOp) : List PySem.Expr → SS → Option (Bool × SS)
  | [], _ => none
  | [x], σ => bn2 (r.e Γ x σ) fun v σ1 => bnd (asBool v) fun b => some (b, σ1)
  | x :: y :: l, σ => bn2 (r.e Γ x σ) fun v σ1 => bnd (asBool v) fun b => match op, b with
    | .And, false => some (false, σ1)
    | .Or, true => some (true, σ1)
    | _, _ => evBool r Γ op (y :: l) σ1
noncomputable def evE (P : SP) (r : RC) (Γ : SG) (e : PySem.Expr) (σ : SS) : Option (SV × SS) :=
  match e with
  | .Name x _ => chk (notDebug x) (bnd (lookN P Γ x σ) fun v => some (v, σ))
  | .Constant c _ _ => constS c σ
  | .List es _ => bn2 (evL r Γ es σ) fun vs σ1 => chk (ble1000 vs.length) (some (σ1.nxt, σ1.push (.list vs)))
  | .Tuple es _ _ => bn2 (evL r Γ es σ) fun vs σ1 => chk (ble1000 vs.length) (some (.tup vs, σ1))
  | .Dict ks vs _ => chk (ks.isEmpty && vs.isEmpty) (some (σ.nxt, σ.push (.homes [])))
  | .Attribute o name _ => chk (!isSup o) (bn2 (r.e Γ o σ) fun v σ1 => bnd (getA P v name σ1) fun y => some (y, σ1))
  | .Subscript o i _ => bn2 (r.e Γ o σ) fun v σ1 => bif isSlice i then chk (upto1 i && isName o) (bnd (asStr v) fun s => chk (ble1000 s.cps.size) (some (.str (Txt.slice s none (some 1)), σ1)))
      else bn2 (r.e Γ i σ1) fun iv σ2 => bnd (itemS v iv σ2) fun y => some (y, σ2)
  | .Call func args ks pos => chk ks.isEmpty (evCall P r Γ func args pos σ)
  | .BinOp l op m _ => bn2 (r.e Γ l σ) fun a σ1 => bn2 (r.e Γ m σ1) fun b σ2 => binS op a b σ2
  | .Compare l ops ms _ => match ops, ms with
    | [op], [m] => chk (!behindInMarks op m) (bn2 (r.e Γ l σ) fun a σ1 => bn2 (r.e Γ m σ1) fun b σ2 => bnd (cmpS P op a b σ2) fun c => some (.bool c, σ2))
    | [op, op2], [m, m2] => chk (!behindInMarks op m && !behindInMarks op2 m2) (bn2 (r.e Γ l σ) fun a σ1 => bn2 (r.e Γ m σ1) fun b σ2 => bnd (cmpS P op a b σ2) fun c =>
        bif c then bn2 (r.e Γ m2 σ2) fun b2 σ3 => bnd (cmpS P op2 b b2 σ3) fun c2 => some (.bool c2, σ3) else some (.bool false, σ2))
    | _, _ => none
  | .UnaryOp op x _ => match op with
    | .USub => bn2 (r.e Γ x σ) fun a σ1 => bnd (asInt a) fun k => some (.int (-k), σ1)
    | _ => none
  | .BoolOp op xs _ => bn2 (evBool r Γ op xs σ) fun b σ1 => some (.bool b, σ1)
  | .IfExp t b o _ => bn2 (r.t Γ t σ) fun c σ1 => bif c then r.e Γ b σ1 else r.e Γ o σ1
  | .ListComp elt gs scope _ => bnd (compG gs) fun g => match g.2.2 with
    | [] => compE P r Γ (fun _ => true) elt g.1 g.2.1 [] scope σ
    | [t] => compE P r Γ SrcS.isRng elt g.1 g.2.1 [t] scope σ
    | _ => none
  | _ => none
noncomputable def evTV (r : RC) (Γ : SG) (e : PySem.Expr) (σ : SS) : Option (Bool × SS) := bn2 (r.e Γ e σ) fun v σ1 => bnd (asBool v) fun b => some (b, σ1)
noncomputable def evT (P : SP) (r : RC) (Γ : SG) (e : PySem.Expr) (σ : SS) : Option (Bool × SS) :=
  match e with
  | .UnaryOp op x _ => match op with
    | .Not => bn2 (r.t Γ x σ) fun b σ1 => some (!b, σ1)
    | _ => none
  | .BoolOp op xs pos => match op, xs with
    | .And, [] => some (true, σ)
    | .Or, [] => some (false, σ)
    | .And, x :: rest => bn2 (r.t Γ x σ) fun b σ1 => bif b then r.t Γ (.BoolOp .And rest pos) σ1 else some (false, σ1)
    | .Or, x :: rest => bn2 (r.t Γ x σ) fun b σ1 => bif b then some (true, σ1) else r.t Γ (.BoolOp .Or rest pos) σ1
  | .Compare l ops ms _ => match ops, ms with
    | [op], [m] => chk (!behindInMarks op m) (bn2 (r.e Γ l σ) fun a σ1 => bn2 (r.e Γ m σ1) fun b σ2 => bnd (cmpS P op a b σ2) fun c => some (c, σ2))
    | _, _ => none
  | .Name .. => evTV r Γ e σ
  | .Call .. => evTV r Γ e σ
  | .Subscript .. => evTV r Γ e σ
  | _ => none
noncomputable def swapB (Γ : SG) (scope : Scope) (x : Str) (xp cp : Pos) : Bool :=
  Γ.own.isNone && isLocal (kindS Γ x) && Nat.beq xp.line cp.line && !(scope.names.any fun q => strEq q.1 x && (isLocal (some q.2) || isCell (some q.2)))
noncomputable def asgN (r : RC) (Γ : SG) (x : Str) (value : PySem.Expr) (σ : SS) : Option (SF × SS) :=
  bn2 (r.e Γ value σ) fun v σ1 => bnd (storeS Γ x v σ1) fun σ2 => some (.next, σ2)
noncomputable def evAsg (P : SP) (r : RC) (Γ : SG) (t value : PySem.Expr) (σ : SS) : Option (SF × SS) :=
  match t with
  | .Name x xp => match value with
    | .ListComp elt gs scope cp => bif isCell (kindS Γ x) then asgN r Γ x (.ListComp elt gs scope cp) σ else bnd (compG gs) fun g => chk (g.2.2.isEmpty && swapB Γ scope x xp cp) (bn2 (compE P r Γ (fun s => !s.isTup) elt g.1 g.2.1 [] scope σ) fun v σ1 => some (.next, { σ1 with loc := putS x v σ1.loc }))
    | value => chk (!isComp value) (asgN r Γ x value σ)
  | .Attribute o name _ => bn2 (r.e Γ value σ) fun v σ1 => bn2 (r.e Γ o σ1) fun ov σ2 => bnd (setA P ov name v σ2) fun σ3 => some (.next, σ3)
  | .Subscript o i _ => bn2 (r.e Γ value σ) fun v σ1 => bn2 (r.e Γ o σ1) fun ov σ2 => bn2 (r.e Γ i σ2) fun iv σ3 => bnd (setI ov iv v σ3) fun σ4 => some (.next, σ4)
  | _ => none
noncomputable def isNn : SV → Bool | .none => true | _ => false
mutual
noncomputable def SV.eq : SV → SV → Bool
  | .int a, b => isS (asInt b) fun y => decide (a = y)
  | .msk a, b => isS (asMsk b) fun y => natsEq a y
  | .str a, b => isS (asStr b) fun y => strEq a y
  | .bool a, b => isS (asBool b) fun y => a == y
  | .none, b => isNn b
  | .loc a, b => isS (asLoc b) fun y => Nat.beq a y
  | .tup a, b => isS (asTup b) fun y => svsEq a y
  | .set a, b => isS (asSet b) fun y => natsEq a y
  | _, _ => false
noncomputable def svsEq : List SV → List SV → Bool
  | [], [] => true
  | a :: l, b :: m => a.eq b && svsEq l m
  | _, _ => false
end
noncomputable def fsEq : List (Str × SV) → List (Str × SV) → Bool
  | [], [] => true
  | a :: l, b :: m => strEq a.1 b.1 && a.2.eq b.2 && fsEq l m
  | _, _ => false
noncomputable def hsEq : List (List Int × SV) → List (List Int × SV) → Bool
  | [], [] => true
  | a :: l, b :: m => intsEq a.1 b.1 && a.2.eq b.2 && hsEq l m
  | _, _ => false
noncomputable def SO.eq : SO → SO → Bool
  | .list a, b => isS (oList b) fun y => svsEq a y
  | .inst a d, b => isS (oInst b) fun y => Nat.beq a y.1 && Nat.beq d y.2
  | .dict a, b => isS (oDict b) fun y => fsEq a y
  | .homes a, b => isS (oHomes b) fun y => hsEq a y
  | .cell none, b => isS (oCell b) fun y => y.isNone
  | .cell (some a), b => isS (oCell b) fun y => isS y fun y => a.eq y
  | .gone, b => oGone b
noncomputable def osEq : List SO → List SO → Bool
  | [], [] => true
  | a :: l, b :: m => a.eq b && osEq l m
  | _, _ => false
noncomputable def ifNe (P : SP) (r : RC) (Γ : SG) (x y name : Str) (b : List Stmt) (σ : SS) : Option (SF × SS) :=
  chk (notDebug x && notDebug y) (bnd (lookN P Γ x σ) fun v => bnd (lookN P Γ y σ) fun ov => bnd (instS ov σ) fun q => chk (P.atr q.2.1 name) (bnd (lookS name q.2.2.2) fun u =>
    bnd (asKer v) fun ps => bnd (asKer u) fun qs => chk (intsEq (ps.map (·.1)) (qs.map (·.1)) && Nat.ble ps.length 8 && !meqs (ps.map (·.2)) (qs.map (·.2)))
      (bn2 (evB r Γ b σ) fun f σT => match f with
        | .next => chk (fsEq σT.loc σ.loc && osEq σT.os (σ.set q.2.2.1 (.dict (putS name v q.2.2.2))).os) (some (.next, σT))
        | _ => none)))
noncomputable def isNe : CmpOp → Bool | .NotEq => true | _ => false
noncomputable def ifPat (t : PySem.Expr) : Option (Str × Str × Str) :=
  bnd (vCmp (view t)) fun q => bnd (one q.2.1) fun op => chk (isNe op) (bnd (asName q.1) fun x => bnd (one q.2.2) fun r => bnd (vAttr (view r)) fun z => bnd (asName z.1) fun y => some (x, y, z.2))
noncomputable def evIf (P : SP) (r : RC) (Γ : SG) (t : PySem.Expr) (b o : List Stmt) (σ : SS) : Option (SF × SS) :=
  bn2 (r.t Γ t σ) fun c σ1 => bif c then evB r Γ b σ1 else evB r Γ o σ1
noncomputable def evS (P : SP) (r : RC) (Γ : SG) (s : Stmt) (σ : SS) : Option (SF × SS) :=
  match s with
  | .Assign ts value _ => bnd (one ts) fun t => evAsg P r Γ t value σ
  | .Expr e _ => chk (isCall e) (bn2 (r.e Γ e σ) fun _ σ1 => some (.next, σ1))
  | .If t b o _ => match evIf P r Γ t b o σ with
    | some q => some q
    | none => chk o.isEmpty (bnd (ifPat t) fun q => ifNe P r Γ q.1 q.2.1 q.2.2 b σ)
  | .For target iter body orelse _ => chk (orelse.isEmpty && notSet iter && Γ.own.isNone) (bn2 (srcE P r Γ iter σ) fun src σ1 => chk (isName target || !src.isRng) (bn2 (forS r Γ target body src.items (src.hide σ1)) fun f σ2 => bnd (src.back σ2) fun σ3 => some (f, σ3)))
  | .While t b orelse _ => chk orelse.isEmpty (r.w Γ t b σ)
  | .Return e _ => bnd e fun e => bn2 (r.e Γ e σ) fun v σ1 => some (.ret v, σ1)
  | .Try body hs orelse final _ => chk (!hs.isEmpty && orelse.isEmpty && final.isEmpty) (bn2 (evB r Γ body σ) fun f σ1 => match f with
    | .next => some (.next, σ1)
    | _ => none)
  | _ => none
noncomputable def evW (r : RC) (Γ : SG) (t : PySem.Expr) (b : List Stmt) (σ : SS) : Option (SF × SS) :=
  bn2 (r.t Γ t σ) fun c σ1 => bif c then bn2 (evB r Γ b σ1) fun f σ2 => match f with
    | .next => r.w Γ t b σ2
    | .ret v => some (.ret v, σ2)
  else some (.next, σ1)
noncomputable def evN (P : SP) : Nat → RC
  | 0 => ⟨fun _ _ _ => none, fun _ _ _ => none, fun _ _ _ => none, fun _ _ _ _ => none⟩
  | n + 1 => ⟨evE P (evN P n), evT P (evN P n), evS P (evN P n), evW (evN P n)⟩
end Mine
end
section
open PySem PySem.W PyProof.Rows
namespace Mine
theorem bnd_eq {α β : Type} {o : Option α} {f : α → Option β} {b : β} (h : bnd o f = some b) : ∃ a, o = some a ∧ f a = some b := Option.bind_eq_some_iff.mp h
theorem bn2_eq {α β γ : Type} {o : Option (α × β)} {f : α → β → Option γ} {c : γ} (h : bn2 o f = some c) : ∃ a b, o = some (a, b) ∧ f a b = some c := by
  unfold bn2 at h
  exact let ⟨q, h1, h2⟩ := Option.bind_eq_some_iff.mp h; ⟨q.1, q.2, h1, h2⟩
theorem chk_eq {α : Type} {b : Bool} {k : Option α} {a : α} (h : chk b k = some a) : b = true ∧ k = some a := by cases b with | true => exact ⟨rfl, h⟩ | false => cases h
theorem andB {a b : Bool} (h : (a && b) = true) : a = true ∧ b = true := Bool.and_eq_true_iff.mp h
theorem notB {a : Bool} (h : (!a) = true) : a = false := by cases a with | true => cases h | false => rfl
theorem natsEq_iff : ∀ {a b : List Nat}, natsEq a b = true ↔ a = b
  | [], [] => ⟨fun _ => rfl, fun _ => rfl⟩
  | [], _ :: _ => ⟨fun h => (nomatch h), fun h => (nomatch h)⟩
  | _ :: _, [] => ⟨fun h => (nomatch h), fun h => (nomatch h)⟩
  | a :: x, b :: y => ⟨fun h => by obtain ⟨h1, h2⟩ := andB (a := Nat.beq a b) (b := natsEq x y) h; rw [Nat.eq_of_beq_eq_true h1, natsEq_iff.mp h2], fun h => by cases h; exact Bool.and_eq_true_iff.mpr ⟨Nat.beq_refl a, natsEq_iff.mpr rfl⟩⟩
theorem strEq_iff {a b : Str} : strEq a b = true ↔ a = b := by
  unfold strEq
  rw [natsEq_iff]
  constructor
  · intro h
    obtain ⟨x⟩ := a; obtain ⟨y⟩ := b
    exact congrArg Str.mk (Array.ext' h)
  · rintro rfl; rfl
theorem strEq_false {a b : Str} (h : strEq a b = false) : a ≠ b := fun e => by rw [strEq_iff.mpr e] at h; cases h
theorem strEq_ne {a b : Str} (h : a ≠ b) : strEq a b = false := Bool.eq_false_iff.mpr fun q => h (strEq_iff.mp q)
theorem strEq_beq (a b : Str) : strEq a b = (a == b) := by
  rw [Bool.eq_iff_iff, strEq_iff, beq_iff_eq]
theorem lookS_cons_eq {α : Type} {x : Str} {p : Str × α} {r : List (Str × α)} (h : x = p.1) : lookS x (p :: r) = some p.2 := by show (bif strEq x p.1 then some p.2 else lookS x r) = _; rw [strEq_iff.mpr h]; rfl
theorem lookS_cons_ne {α : Type} {x : Str} {p : Str × α} {r : List (Str × α)} (h : x ≠ p.1) : lookS x (p :: r) = lookS x r := by show (bif strEq x p.1 then some p.2 else lookS x r) = _; rw [strEq_ne h]; rfl
theorem lookS_eq {α : Type} (x : Str) : ∀ l : List (Str × α), lookS x l = l.lookup x
  | [] => rfl
  | p :: r => by
    rw [List.lookup_cons, ← lookS_eq x r, ← strEq_beq]
    show (bif strEq x p.1 then some p.2 else lookS x r) = _
    cases strEq x p.1 <;> rfl
theorem lookS_putS {α : Type} (x y : Str) (v : α) : ∀ l : List (Str × α), lookS y (putS x v l) = if y = x then some v else lookS y l
  | [] => by
    show lookS y [(x, v)] = _
    by_cases h : y = x
    · rw [lookS_cons_eq h, if_pos h]
    · rw [lookS_cons_ne h, if_neg h]
  | p :: r => by
    have ih := lookS_putS x y v r
    show lookS y (bif strEq x p.1 then (p.1, v) :: r else p :: putS x v r) = _
    by_cases e : x = p.1
    · rw [strEq_iff.mpr e]
      by_cases h : y = x
      · rw [if_pos h]; exact lookS_cons_eq (h.trans e)
      · rw [if_neg h, lookS_cons_ne (fun q => h (q.trans e.symm))]; exact lookS_cons_ne fun q => h (q.trans e.symm)
    · rw [strEq_ne e]
      by_cases h : y = p.1
      · rw [if_neg (fun q => e (q.symm.trans h)), lookS_cons_eq h]; exact lookS_cons_eq h
      · rw [lookS_cons_ne h, ← ih]; exact lookS_cons_ne h
theorem putS_len {α : Type} (x : Str) (v : α) : ∀ l : List (Str × α), l.length ≤ (putS x v l).length
  | [] => Nat.zero_le _
  | p :: r => by
    show _ ≤ (bif strEq x p.1 then (p.1, v) :: r else p :: putS x v r).length
    cases strEq x p.1 with
    | true => exact Nat.le_refl _
    | false => exact Nat.succ_le_succ (putS_len x v r)
section
variable {α β : Type}
theorem nth_lt : ∀ {l : List α} {i : Nat} {a : α}, nth l i = some a → i < l.length
  | _ :: _, 0, _, _ => Nat.zero_lt_succ _
  | _ :: l, n + 1, _, h => Nat.succ_lt_succ (nth_lt (l := l) h)
theorem nth_app : ∀ {l m : List α} {i : Nat} {a : α}, nth l i = some a → nth (l ++ m) i = some a
  | _ :: _, _, 0, _, h => h
  | _ :: l, _, n + 1, _, h => nth_app (l := l) h
theorem nth_end : ∀ (l : List α) (a : α) (m : List α), nth (l ++ a :: m) l.length = some a
  | [], _, _ => rfl
  | _ :: l, a, m => nth_end l a m
theorem nth_snoc : ∀ {l : List α} {b : α} {i : Nat} {a : α}, nth (l ++ [b]) i = some a → nth l i = some a ∨ (i = l.length ∧ a = b)
  | [], b, 0, a, h => .inr ⟨rfl, (Option.some.inj h).symm⟩
  | [], _, _ + 1, _, h => nomatch h
  | _ :: _, _, 0, _, h => .inl h
  | _ :: l, b, n + 1, a, h => (nth_snoc (l := l) h).imp id fun ⟨e, q⟩ => ⟨congrArg (· + 1) e, q⟩
theorem nth_setN : ∀ {l : List α} {i j : Nat} {b a : α}, nth (setN l i b) j = some a → (j = i ∧ a = b) ∨ (j ≠ i ∧ nth l j = some a)
  | _ :: _, 0, 0, _, _, h => .inl ⟨rfl, (Option.some.inj h).symm⟩
  | _ :: _, 0, _ + 1, _, _, h => .inr ⟨by simp, h⟩
  | _ :: _, _ + 1, 0, _, _, h => .inr ⟨by simp, h⟩
  | _ :: l, i + 1, j + 1, _, _, h => (nth_setN (l := l) h).imp (fun ⟨e, q⟩ => ⟨congrArg (· + 1) e, q⟩) fun ⟨e, q⟩ => ⟨by omega, q⟩
theorem setN_len : ∀ (l : List α) (i : Nat) (b : α), (setN l i b).length = l.length
  | [], _, _ => rfl
  | _ :: _, 0, _ => rfl
  | _ :: l, n + 1, b => congrArg (· + 1) (setN_len l n b)
theorem nth_eq : ∀ (l : List α) (i : Nat), nth l i = l[i]?
  | [], _ => rfl
  | _ :: _, 0 => rfl
  | _ :: l, n + 1 => by rw [List.getElem?_cons_succ]; exact nth_eq l n
theorem nth_drop : ∀ {l : List α} {i : Nat} {a : α}, nth l i = some a → l.drop i = a :: l.drop (i + 1)
  | _ :: _, 0, _, h => by cases h; rfl
  | _ :: l, n + 1, _, h => nth_drop (l := l) h
noncomputable def All2 (R : α → β → Prop) : List α → List β → Prop
  | [], [] => True
  | a :: l, b :: m => R a b ∧ All2 R l m
  | _, _ => False
variable {R S : α → β → Prop}
theorem All2.mono (h : ∀ a b, R a b → S a b) : ∀ {l : List α} {m : List β}, All2 R l m → All2 S l m
  | [], [], _ => trivial
  | _ :: _, _ :: _, x => ⟨h _ _ x.1, All2.mono h x.2⟩
theorem All2.len : ∀ {l : List α} {m : List β}, All2 R l m → l.length = m.length
  | [], [], _ => rfl
  | _ :: _, _ :: _, x => congrArg (· + 1) (All2.len x.2)
theorem All2.nth : ∀ {l : List α} {m : List β} {i : Nat} {a : α}, All2 R l m → Mine.nth l i = some a → ∃ b, m[i]? = some b ∧ R a b
  | _ :: _, b :: _, 0, _, x, h => by cases h; exact ⟨b, rfl, x.1⟩
  | _ :: l, _ :: m, n + 1, _, x, h => by simpa using All2.nth (l := l) (m := m) x.2 h
  | [], [], _, _, _, h => nomatch h
theorem All2.nthR : ∀ {l : List α} {m : List β} {i : Nat} {b : β}, All2 R l m → m[i]? = some b → ∃ a, Mine.nth l i = some a ∧ R a b
  | a :: _, _ :: _, 0, _, x, h => by cases h; exact ⟨a, rfl, x.1⟩
  | _ :: l, _ :: m, n + 1, _, x, h => All2.nthR (l := l) (m := m) x.2 (by simpa using h)
  | [], [], _, _, _, h => by simp at h
theorem All2.app : ∀ {l l' : List α} {m m' : List β}, All2 R l m → All2 R l' m' → All2 R (l ++ l') (m ++ m')
  | [], _, [], _, _, y => y
  | _ :: _, _, _ :: _, _, x, y => ⟨x.1, All2.app x.2 y⟩
  | [], _, _ :: _, _, x, _ => x.elim
  | _ :: _, _, [], _, x, _ => x.elim
theorem All2.setN : ∀ {l : List α} {m : List β} {i : Nat} {a : α} {b : β}, All2 R l m → R a b → All2 R (Mine.setN l i a) (m.set i b)
  | [], [], _, _, _, _, _ => trivial
  | _ :: _, _ :: _, 0, _, _, x, y => ⟨y, x.2⟩
  | _ :: l, _ :: m, n + 1, _, _, x, y => ⟨x.1, All2.setN (l := l) (m := m) x.2 y⟩
theorem All2.rep {l : List α} {m : List β} (h : All2 R l m) : ∀ n, All2 R (List.flatten (List.replicate n l)) (List.flatten (List.replicate n m))
  | 0 => trivial
  | n + 1 => by
    rw [List.replicate_succ, List.replicate_succ, List.flatten_cons, List.flatten_cons]
    exact h.app (All2.rep h n)
theorem All2.drop : ∀ {l : List α} {m : List β} (n : Nat), All2 R l m → All2 R (l.drop n) (m.drop n)
  | _, _, 0, h => h
  | [], [], _ + 1, _ => trivial
  | _ :: _, _ :: _, n + 1, h => All2.drop n h.2
theorem All2.reverse : ∀ {l : List α} {m : List β}, All2 R l m → All2 R l.reverse m.reverse
  | [], [], _ => trivial
  | a :: l, b :: m, h => by rw [List.reverse_cons, List.reverse_cons]; exact (All2.reverse h.2).app (l' := [a]) (m' := [b]) ⟨h.1, trivial⟩
theorem All2.zip {γ : Type} : ∀ {l : List α} {m : List β} (ns : List γ), All2 R l m → All2 (fun (p : γ × α) (q : γ × β) => p.1 = q.1 ∧ R p.2 q.2) (ns.zip l) (ns.zip m)
  | _, _, [], _ => trivial
  | [], [], _ :: _, _ => trivial
  | _ :: _, _ :: _, _ :: ns, h => ⟨⟨rfl, h.1⟩, All2.zip ns h.2⟩
theorem All2.look : ∀ {l : List (Str × α)} {m : List (Str × β)} {x : Str} {v : α}, All2 (fun p q => p.1 = q.1 ∧ R p.2 q.2) l m → lookS x l = some v → ∃ y, m.lookup x = some y ∧ R v y
  | a :: l, b :: m, x, v, h, e => by
    obtain ⟨⟨h1, h2⟩, h3⟩ := h
    rw [List.lookup_cons, ← strEq_beq, ← h1]
    replace e : (bif strEq x a.1 then some a.2 else lookS x l) = some v := e
    cases q : strEq x a.1 with
    | true => rw [q] at e; cases e; exact ⟨b.2, rfl, h2⟩
    | false => rw [q] at e; exact All2.look h3 e
  | [], _, _, _, _, e => nomatch e
theorem All2.mapOf {f : β → α} (h : ∀ b, R (f b) b) : ∀ l : List β, All2 R (l.map f) l
  | [] => trivial
  | b :: l => ⟨h b, All2.mapOf h l⟩
theorem All2.memR : ∀ {l : List α} {m : List β} {b : β}, All2 R l m → b ∈ m → ∃ a ∈ l, R a b
  | a :: l, b :: m, _, h, .head _ => ⟨a, List.mem_cons_self, h.1⟩
  | a :: l, b :: m, _, h, .tail _ q => let ⟨a', h1, h2⟩ := All2.memR h.2 q; ⟨a', List.mem_cons_of_mem _ h1, h2⟩
  | [], _ :: _, _, h, _ => h.elim
end
structure AS where
  ad : List Addr
  im : List (Addr × Obj)
noncomputable def AS.add (as : AS) (a : Addr) : AS := { as with ad := as.ad ++ [a] }
noncomputable def AS.fix (as : AS) (tl : List (Addr × Obj)) : AS := { as with im := tl ++ as.im }
noncomputable def Sub (as as' : AS) : Prop := (∃ t, as'.ad = as.ad ++ t) ∧ ∀ q ∈ as.im, q ∈ as'.im
theorem Sub.refl (as : AS) : Sub as as := ⟨⟨[], (List.append_nil _).symm⟩, fun _ h => h⟩
theorem Sub.trans {a b c : AS} (h : Sub a b) (k : Sub b c) : Sub a c := by
  obtain ⟨⟨t, e⟩, f⟩ := h; obtain ⟨⟨u, e'⟩, f'⟩ := k; exact ⟨⟨t ++ u, by rw [e', e, List.append_assoc]⟩, fun q hq => f' q (f q hq)⟩
theorem Sub.add (as : AS) (a : Addr) : Sub as (as.add a) := ⟨⟨[a], rfl⟩, fun _ h => h⟩
theorem Sub.fix (as : AS) (tl : List (Addr × Obj)) : Sub as (as.fix tl) := ⟨⟨[], (List.append_nil _).symm⟩, fun _ h => List.mem_append_right _ h⟩
theorem Sub.nth {as as' : AS} (h : Sub as as') {i : Nat} {a : Addr} (e : nth as.ad i = some a) : Mine.nth as'.ad i = some a := by
  obtain ⟨⟨t, q⟩, _⟩ := h; rw [q]; exact nth_app e
mutual
noncomputable def IsV (w : World) (ρ : Nat → Nat) (as : AS) : SV → Value → Prop
  | .msk e, x => ∃ t, x = .int (mval ρ e : Nat) t
  | .int k, x => ∃ t, x = .int k t
  | .str k, x => ∃ t, x = .str k t
  | .bool b, x => x = .bool b
  | .none, x => x = .none
  | .loc i, x => ∃ a, nth as.ad i = some a ∧ x = .ref a
  | .tup vs, x => ∃ a xs n, x = .ref a ∧ (a, tupO (List.toArray xs) n) ∈ as.im ∧ IsVs w ρ as vs xs
  | .set e, x => ∃ a o, x = .ref a ∧ (a, o) ∈ as.im ∧ IsM (byT w) (mval ρ e) o
  | .bi b, x => x = b.v
  | .fix v, x => x = v
noncomputable def IsVs (w : World) (ρ : Nat → Nat) (as : AS) : List SV → List Value → Prop
  | [], [] => True
  | v :: vs, x :: xs => IsV w ρ as v x ∧ IsVs w ρ as vs xs
  | _, _ => False
end
section
variable {w : World} {ρ : Nat → Nat} {as as' : AS}
theorem isVs_all : ∀ {vs : List SV} {xs : List Value}, IsVs w ρ as vs xs → All2 (IsV w ρ as) vs xs
  | [], [], _ => trivial
  | _ :: _, _ :: _, h => ⟨h.1, isVs_all h.2⟩
theorem all_isVs : ∀ {vs : List SV} {xs : List Value}, All2 (IsV w ρ as) vs xs → IsVs w ρ as vs xs
  | [], [], _ => trivial
  | _ :: _, _ :: _, h => ⟨h.1, all_isVs h.2⟩
mutual
theorem IsV.mono (h : Sub as as') : ∀ {v : SV} {x : Value}, IsV w ρ as v x → IsV w ρ as' v x
  | .msk _, _, e => e
  | .int _, _, e => e
  | .str _, _, e => e
  | .bool _, _, e => e
  | .none, _, e => e
  | .loc _, _, ⟨a, e, q⟩ => ⟨a, h.nth e, q⟩
  | .tup _, _, ⟨a, xs, n, e, q, z⟩ => ⟨a, xs, n, e, h.2 _ q, IsVs.mono h z⟩
  | .set _, _, ⟨a, o, e, q, z⟩ => ⟨a, o, e, h.2 _ q, z⟩
  | .bi _, _, e => e
  | .fix _, _, e => e
theorem IsVs.mono (h : Sub as as') : ∀ {vs : List SV} {xs : List Value}, IsVs w ρ as vs xs → IsVs w ρ as' vs xs
  | [], [], _ => trivial
  | _ :: _, _ :: _, ⟨e, z⟩ => ⟨IsV.mono h e, IsVs.mono h z⟩
end
theorem All2.up (h : Sub as as') {vs : List SV} {xs : List Value} (k : All2 (IsV w ρ as) vs xs) : All2 (IsV w ρ as') vs xs := k.mono fun _ _ => IsV.mono h
theorem IsV.ofV : ∀ {x : Value}, IsV w ρ as (ofV x) x
  | .int _ t => ⟨t, rfl⟩
  | .str _ t => ⟨t, rfl⟩
  | .bool _ => rfl
  | .none => rfl
  | .ellipsis => rfl
  | .notImplemented => rfl
  | .float .. => rfl
  | .bytes .. => rfl
  | .type _ => rfl
  | .builtin _ => rfl
  | .ref _ => rfl
end
noncomputable def DictOk (w : World) (ρ : Nat → Nat) (as : AS) (fs : List (Str × SV)) (es : List DictEntry) : Prop :=
  es.length ≤ fs.length ∧ ∀ x, (∀ v, lookS x fs = some v → ∃ y, getL x es = some (some y) ∧ IsV w ρ as v y) ∧ (lookS x fs = none → getL x es = some none)
noncomputable def KeyOk (w : World) (ρ : Nat → Nat) (as : AS) (x : List Int × SV) (y : List Int × Addr × Value) : Prop :=
  y.1 = x.1 ∧ (∃ xs n, (y.2.1, tupO (List.toArray xs) n) ∈ as.im ∧ IntsAre xs x.1) ∧ IsV w ρ as x.2 y.2.2
noncomputable def IsO (prog : Program) (w : World) (ρ : Nat → Nat) (as : AS) (a : Addr) : SO → Obj → Prop
  | .list vs, o => ∃ xs n, o = W.listOf (List.toArray xs) n ∧ All2 (IsV w ρ as) vs xs
  | .inst C d, o => ∃ da, nth as.ad d = some da ∧ o = instObj C da
  | .dict fs, o => ∃ es n, o = dictOf es n ∧ DictOk w ρ as fs es
  | .homes xs, o => (a == sysModules) = false ∧ ∃ ys, HomesObj prog w o ys ∧ All2 (KeyOk w ρ as) xs ys
  | .cell none, o => o.data = .cell none
  | .cell (some v), o => ∃ y, o.data = .cell (some y) ∧ IsV w ρ as v y
  | .gone, _ => True
theorem IsO.mono {prog : Program} {w : World} {ρ : Nat → Nat} {as as' : AS} {a : Addr} (h : Sub as as') : ∀ {o : SO} {ob : Obj}, IsO prog w ρ as a o ob → IsO prog w ρ as' a o ob
  | .list _, _, ⟨xs, n, e, x⟩ => ⟨xs, n, e, x.up h⟩
  | .inst _ _, _, ⟨da, e, x⟩ => ⟨da, h.nth e, x⟩
  | .dict _, _, ⟨es, n, e, x⟩ => ⟨es, n, e, x.1, fun z => ⟨fun v q => let ⟨y, e1, e2⟩ := (x.2 z).1 v q; ⟨y, e1, e2.mono h⟩, (x.2 z).2⟩⟩
  | .homes _, _, ⟨z, ys, e, x⟩ => ⟨z, ys, e, x.mono fun _ _ k => ⟨k.1, (let ⟨xs, n, e1, e2⟩ := k.2.1; ⟨xs, n, h.2 _ e1, e2⟩), k.2.2.mono h⟩⟩
  | .cell none, _, e => e
  | .cell (some _), _, ⟨y, e, x⟩ => ⟨y, e, x.mono h⟩
  | .gone, _, _ => trivial
structure Cx where
  A : Around
  h₀ : Heap
  L : Addr
  fenv : Env
  rest : List (Addr × Obj)
noncomputable def Cx.with (c : Cx) (p : Addr × Obj) : Cx := { c with rest := p :: c.rest }
noncomputable def led (c : Cx) (as : AS) (kn : List (Addr × Obj)) : List (Addr × Obj) := kn ++ (as.im ++ c.rest)
structure RepS (prog : Program) (w : World) (ρ : Nat → Nat) (c : Cx) (σ : SS) (as : AS) (m : Str → Option Value) (kn : List (Addr × Obj)) : Prop where
  nd : (kn.map (·.1)).Nodup
  ap : ∀ p ∈ kn, ∀ q ∈ as.im ++ c.rest, q.1 ≠ p.1
  len : as.ad.length = σ.os.length
  ok : ∀ i o, nth σ.os i = some o → o ≠ .gone → ∃ a ob, nth as.ad i = some a ∧ (a, ob) ∈ kn ∧ IsO prog w ρ as a o ob
  inj : ∀ i j a oi oj, nth σ.os i = some oi → nth σ.os j = some oj → oi ≠ .gone → oj ≠ .gone → nth as.ad i = some a → nth as.ad j = some a → i = j
  loc : ∀ x v, lookS x σ.loc = some v → ∃ y, m x = some y ∧ IsV w ρ as v y
  ir : ∀ q ∈ as.im, ∀ z ∈ c.rest, z.1 ≠ q.1
structure Rep (prog : Program) (w : World) (ρ : Nat → Nat) (c : Cx) (h : Heap) (σ : SS) (as : AS) (m : Str → Option Value) (kn : List (Addr × Obj)) : Prop where
  F : Fr c.h₀ c.L h m
  N : News c.h₀ c.L h (led c as kn)
  S : RepS prog w ρ c σ as m kn
section
variable {prog : Program} {w : World} {ρ : Nat → Nat} {c : Cx} {h : Heap} {σ : SS} {as : AS} {m : Str → Option Value} {kn : List (Addr × Obj)}
theorem mem_kn {q : Addr × Obj} (h : q ∈ kn) : q ∈ led c as kn := List.mem_append_left _ h
theorem mem_im {q : Addr × Obj} (h : q ∈ as.im) : q ∈ led c as kn := List.mem_append_right _ (List.mem_append_left _ h)
theorem mem_rest {q : Addr × Obj} (h : q ∈ c.rest) : q ∈ led c as kn := List.mem_append_right _ (List.mem_append_right _ h)
theorem led_cases {P : Addr × Obj → Prop} {q : Addr × Obj} (h : q ∈ led c as kn) (h1 : q ∈ kn → P q) (h2 : q ∈ as.im → P q) (h3 : q ∈ c.rest → P q) : P q := by
  rcases List.mem_append.mp h with h | h
  · exact h1 h
  · rcases List.mem_append.mp h with h | h
    · exact h2 h
    · exact h3 h
theorem Rep.last (R : RepS prog w ρ c σ as m kn) (a : Addr) : nth (as.add a).ad σ.os.length = some a := by rw [← R.len]; exact nth_end _ _ _
theorem RepS.push (R : RepS prog w ρ c σ as m kn) {a : Addr} {o : SO} {ob : Obj} (lt : ∀ p ∈ led c as kn, p.1 ≠ a) (hI : IsO prog w ρ (as.add a) a o ob) : RepS prog w ρ c (σ.push o) (as.add a) m ((a, ob) :: kn) := by
  have S := Sub.add as a
  have new : ∀ i o, nth σ.os i = some o → o ≠ .gone → nth (as.add a).ad i ≠ some a := fun i o e g q => by
    obtain ⟨a', ob', e1, e2, _⟩ := R.ok i o e g
    have := S.nth e1
    rw [q] at this
    cases this
    exact lt _ (mem_kn e2) rfl
  have last := Rep.last R a
  refine ⟨List.nodup_cons.mpr ⟨fun q => ?_, R.nd⟩, ?_, ?_, ?_, ?_, fun x v e => let ⟨y, e1, e2⟩ := R.loc x v e; ⟨y, e1, e2.mono S⟩, R.ir⟩
  · obtain ⟨p, hp, e⟩ := List.mem_map.mp q
    exact lt p (mem_kn hp) e
  · intro p hp q hq
    rcases List.mem_cons.mp hp with rfl | hp
    · exact lt q (List.mem_append_right _ hq)
    · exact R.ap p hp q hq
  · show (as.ad ++ [a]).length = (σ.os ++ [o]).length
    rw [List.length_append, List.length_append, R.len]; rfl
  · intro i o' e g
    rcases nth_snoc e with e | ⟨rfl, rfl⟩
    · obtain ⟨a', ob', e1, e2, e3⟩ := R.ok i o' e g
      exact ⟨a', ob', S.nth e1, List.mem_cons_of_mem _ e2, e3.mono S⟩
    · exact ⟨a, ob, last, List.mem_cons_self, hI⟩
  · intro i j a' oi oj e1 e2 g1 g2 q1 q2
    rcases nth_snoc e1 with d1 | ⟨d1, _⟩ <;> rcases nth_snoc e2 with d2 | ⟨d2, _⟩
    · obtain ⟨b1, _, f1, _⟩ := R.ok i oi d1 g1
      obtain ⟨b2, _, f2, _⟩ := R.ok j oj d2 g2
      have z1 := S.nth f1; rw [q1] at z1; cases z1
      have z2 := S.nth f2; rw [q2] at z2; cases z2
      exact R.inj i j _ oi oj d1 d2 g1 g2 f1 f2
    · rw [d2, last] at q2; cases q2
      exact absurd q1 (new i oi d1 g1)
    · rw [d1, last] at q1; cases q1
      exact absurd q2 (new j oj d2 g2)
    · rw [d1, d2]
theorem Rep.push (R : Rep prog w ρ c h σ as m kn) {h' : Heap} {a : Addr} {o : SO} {ob : Obj} (F' : Fr c.h₀ c.L h' m) (N' : News c.h₀ c.L h' ((a, ob) :: led c as kn)) (lt : ∀ p ∈ led c as kn, p.1 < a) (hI : IsO prog w ρ (as.add a) a o ob) :
    Rep prog w ρ c h' (σ.push o) (as.add a) m ((a, ob) :: kn) := ⟨F', N', R.S.push (fun p hp => Nat.ne_of_lt (lt p hp)) hI⟩
theorem Rep.grow (R : Rep prog w ρ c h σ as m kn) {h' : Heap} {tl : List (Addr × Obj)} (F' : Fr c.h₀ c.L h' m) (N' : News c.h₀ c.L h' (tl ++ led c as kn)) (ap : Apart' tl (led c as kn)) : Rep prog w ρ c h' σ (as.fix tl) m kn := by
  have S := Sub.fix as tl
  refine ⟨F', fun q hq => led_cases (P := fun q => h'.get? q.1 = some q.2 ∧ q.1 ≠ c.L ∧ c.h₀.get? q.1 = none) hq (fun z => N' q (List.mem_append_right _ (mem_kn z))) (fun z => ?_) fun z => N' q (List.mem_append_right _ (mem_rest z)), R.S.nd, fun p hp q hq => ?_, R.S.len, fun i o e g => let ⟨a, ob, e1, e2, e3⟩ := R.S.ok i o e g; ⟨a, ob, e1, e2, e3.mono S⟩, R.S.inj, fun x v e => let ⟨y, e1, e2⟩ := R.S.loc x v e; ⟨y, e1, e2.mono S⟩, fun q hq z hz => ?_⟩
  · rcases List.mem_append.mp z with z | z
    · exact N' q (List.mem_append_left _ z)
    · exact N' q (List.mem_append_right _ (mem_im z))
  · rcases List.mem_append.mp hq with hq | hq
    · rcases List.mem_append.mp hq with hq | hq
      · exact Ne.symm (ap q hq p (mem_kn hp))
      · exact R.S.ap p hp q (List.mem_append_left _ hq)
    · exact R.S.ap p hp q (List.mem_append_right _ hq)
  · rcases List.mem_append.mp hq with hq | hq
    · exact ap q hq z (mem_rest hz)
    · exact R.S.ir q hq z hz
theorem Rep.grow1 (R : Rep prog w ρ c h σ as m kn) {h' : Heap} {a : Addr} {ob : Obj} (F' : Fr c.h₀ c.L h' m) (N' : News c.h₀ c.L h' ((a, ob) :: led c as kn)) (lt : ∀ p ∈ led c as kn, p.1 < a) : Rep prog w ρ c h' σ (as.fix [(a, ob)]) m kn :=
  R.grow F' N' fun p hp q hq => by rw [List.mem_singleton.mp hp]; exact Nat.ne_of_lt (lt q hq)
theorem updF_of {a : Addr} {ob : Obj} {rest : List (Addr × Obj)} : ∀ {kn : List (Addr × Obj)}, (a, ob) ∈ kn → (kn.map (·.1)).Nodup → (∀ p ∈ kn, ∀ q ∈ rest, q.1 ≠ p.1) →
    ∃ g : Obj → List (Addr × Obj), UpdF a ob (kn ++ rest) (fun o' => g o' ++ rest) ∧ ∀ o', Upd a ob o' (kn ++ rest) (g o' ++ rest) ∧ (a, o') ∈ g o' ∧ (g o').map (·.1) = kn.map (·.1) ∧ ∀ p ∈ kn, p.1 ≠ a → p ∈ g o'
  | p :: kn, hm, nd, ap => by
    rw [List.map_cons, List.nodup_cons] at nd
    rcases List.mem_cons.mp hm with rfl | hm
    · have off : ∀ p ∈ kn ++ rest, p.1 ≠ a := fun p hp => by
        rcases List.mem_append.mp hp with hp | hp
        · exact fun e => nd.1 (by rw [show ((a, ob) : Addr × Obj).1 = p.1 from e.symm]; exact List.mem_map_of_mem hp)
        · exact ap _ List.mem_cons_self p hp
      exact ⟨fun o' => (a, o') :: kn, .head off, fun o' => ⟨.head off, List.mem_cons_self, rfl, fun p hp ne => by
        rcases List.mem_cons.mp hp with rfl | hp
        · exact absurd rfl ne
        · exact List.mem_cons_of_mem _ hp⟩⟩
    · have ne : p.1 ≠ a := fun e => nd.1 (by rw [e]; exact List.mem_map_of_mem (f := (·.1)) hm)
      obtain ⟨g, U, H⟩ := updF_of (rest := rest) hm nd.2 fun p hp => ap p (List.mem_cons_of_mem _ hp)
      refine ⟨fun o' => p :: g o', .tail ne U, fun o' => ?_⟩
      obtain ⟨u, h1, h2, h3⟩ := H o'
      exact ⟨.tail ne u, List.mem_cons_of_mem _ h1, by rw [List.map_cons, List.map_cons, h2], fun q hq nq => by
        rcases List.mem_cons.mp hq with rfl | hq
        · exact List.mem_cons_self
        · exact List.mem_cons_of_mem _ (h3 q hq nq)⟩
theorem RepS.setTo (R : RepS prog w ρ c σ as m kn) {i : Nat} {a : Addr} {o o' : SO} {ob' : Obj} {kn' : List (Addr × Obj)} (e : nth σ.os i = some o) (g : o ≠ .gone) (ea : nth as.ad i = some a)
    (h1 : (a, ob') ∈ kn') (h2 : kn'.map (·.1) = kn.map (·.1)) (h3 : ∀ p ∈ kn, p.1 ≠ a → p ∈ kn') (hI : IsO prog w ρ as a o' ob') : RepS prog w ρ c (σ.set i o') as m kn' := by
  refine ⟨h2 ▸ R.nd, ?_, by show as.ad.length = (setN σ.os i o').length; rw [setN_len, R.len], ?_, ?_, R.loc, R.ir⟩
  · intro p hp q hq
    have : p.1 ∈ kn.map (·.1) := h2 ▸ List.mem_map_of_mem hp
    obtain ⟨p', hp', e'⟩ := List.mem_map.mp this
    rw [← e']; exact R.ap p' hp' q hq
  · intro j oj ej gj
    rcases nth_setN ej with ⟨rfl, rfl⟩ | ⟨ne, ej⟩
    · exact ⟨a, ob', ea, h1, hI⟩
    · obtain ⟨b, ob, f1, f2, f3⟩ := R.ok j oj ej gj
      refine ⟨b, ob, f1, h3 _ f2 fun q => ne ?_, f3⟩
      have q : b = a := q
      subst q
      exact R.inj j i _ oj o ej e gj g f1 ea
  · intro j k b oj ok ej ek gj gk qj qk
    have back : ∀ {l ol}, nth (setN σ.os i o') l = some ol → ol ≠ .gone → ∃ o2, nth σ.os l = some o2 ∧ o2 ≠ .gone := fun {l ol} q gl => by
      rcases nth_setN q with ⟨rfl, rfl⟩ | ⟨_, q⟩
      · exact ⟨o, e, g⟩
      · exact ⟨ol, q, gl⟩
    obtain ⟨o2, e2, g2⟩ := back ej gj
    obtain ⟨o3, e3, g3⟩ := back ek gk
    exact R.inj j k b o2 o3 e2 e3 g2 g3 qj qk
theorem Rep.upd (R : Rep prog w ρ c h σ as m kn) {i : Nat} {o : SO} (e : nth σ.os i = some o) (g : o ≠ .gone) : ∃ a ob, nth as.ad i = some a ∧ (a, ob) ∈ kn ∧ IsO prog w ρ as a o ob ∧ ∃ G : Obj → List (Addr × Obj), UpdF a ob (led c as kn) (fun o' => led c as (G o')) ∧
    ∀ ob' o', Upd a ob ob' (led c as kn) (led c as (G ob')) ∧ (IsO prog w ρ as a o' ob' → ∀ h', Fr c.h₀ c.L h' m → News c.h₀ c.L h' (led c as (G ob')) → Rep prog w ρ c h' (σ.set i o') as m (G ob')) := by
  obtain ⟨a, ob, e1, e2, e3⟩ := R.S.ok i o e g
  obtain ⟨G, U, H⟩ := updF_of e2 R.S.nd R.S.ap
  exact ⟨a, ob, e1, e2, e3, G, U, fun ob' o' => ⟨(H ob').1, fun hI h' F' N' => ⟨F', N', R.S.setTo e g e1 (H ob').2.1 (H ob').2.2.1 (H ob').2.2.2 hI⟩⟩⟩
theorem Rep.stay (R : Rep prog w ρ c h σ as m kn) {h' : Heap} (F' : Fr c.h₀ c.L h' m) (N' : News c.h₀ c.L h' (led c as kn)) : Rep prog w ρ c h' σ as m kn := ⟨F', N', R.S⟩
theorem RepS.store (R : RepS prog w ρ c σ as m kn) {x : Str} {v : SV} {y : Value} (hv : IsV w ρ as v y) : RepS prog w ρ c { σ with loc := putS x v σ.loc } as (fun z => if z = x then some y else m z) kn := by
  refine ⟨R.nd, R.ap, R.len, R.ok, R.inj, fun z u e => ?_, R.ir⟩
  have e' : lookS z (putS x v σ.loc) = some u := e
  rw [lookS_putS] at e'
  by_cases q : z = x
  · rw [if_pos q] at e'; cases e'; exact ⟨y, if_pos q, hv⟩
  · rw [if_neg q] at e'
    obtain ⟨y', e1, e2⟩ := R.loc z u e'
    exact ⟨y', (if_neg q).trans e1, e2⟩
theorem RepS.with (R : RepS prog w ρ c σ as m kn) {q : Addr × Obj} (hq : ∀ p ∈ led c as kn, p.1 ≠ q.1) : RepS prog w ρ (c.with q) σ as m kn := ⟨R.nd, fun p hp z hz => by
  rcases List.mem_append.mp hz with hz | hz
  · exact R.ap p hp z (List.mem_append_left _ hz)
  · rcases List.mem_cons.mp hz with rfl | hz
    · exact Ne.symm (hq p (mem_kn hp))
    · exact R.ap p hp z (List.mem_append_right _ hz), R.len, R.ok, R.inj, R.loc, fun p hp z hz => by
  rcases List.mem_cons.mp hz with rfl | hz
  · exact Ne.symm (hq p (mem_im hp))
  · exact R.ir p hp z hz⟩
theorem RepS.out {q : Addr × Obj} (R : RepS prog w ρ (c.with q) σ as m kn) : RepS prog w ρ c σ as m kn := ⟨R.nd, fun p hp z hz => R.ap p hp z (by
  rcases List.mem_append.mp hz with hz | hz
  · exact List.mem_append_left _ hz
  · exact List.mem_append_right _ (List.mem_cons_of_mem _ hz)), R.len, R.ok, R.inj, R.loc, fun p hp z hz => R.ir p hp z (List.mem_cons_of_mem _ hz)⟩
theorem led_with {q z : Addr × Obj} (h : z ∈ led c as kn) : z ∈ led (c.with q) as kn := led_cases h mem_kn mem_im fun h => mem_rest (List.mem_cons_of_mem _ h)
theorem mem_with {q z : Addr × Obj} (h : z ∈ led (c.with q) as kn) : z = q ∨ z ∈ led c as kn := led_cases (P := fun z => z = q ∨ z ∈ led c as kn) h (fun h => .inr (mem_kn h)) (fun h => .inr (mem_im h)) fun h => (List.mem_cons.mp h).imp id mem_rest
theorem Rep.with (R : Rep prog w ρ c h σ as m kn) {q : Addr × Obj} (N : News c.h₀ c.L h (q :: led c as kn)) (hq : ∀ p ∈ led c as kn, p.1 ≠ q.1) : Rep prog w ρ (c.with q) h σ as m kn := ⟨R.F, fun z hz => N z ((mem_with hz).elim (fun e => e ▸ List.mem_cons_self) (List.mem_cons_of_mem _)), R.S.with hq⟩
theorem Rep.out {q : Addr × Obj} (R : Rep prog w ρ (c.with q) h σ as m kn) : Rep prog w ρ c h σ as m kn := ⟨R.F, fun z hz => R.N z (led_with hz), R.S.out⟩
theorem Rep.hide (R : Rep prog w ρ c h σ as m kn) {i : Nat} {o : SO} (e : nth σ.os i = some o) (g : o ≠ .gone) : ∃ a ob kn', nth as.ad i = some a ∧ IsO prog w ρ as a o ob ∧ (a, ob) ∈ kn ∧ Rep prog w ρ (c.with (a, ob)) h (σ.set i .gone) as m kn' := by
  obtain ⟨a, ob, e1, e2, e3⟩ := R.S.ok i o e g
  have key : ∀ p ∈ kn.filter (fun p => p.1 != a), p ∈ kn ∧ p.1 ≠ a := fun p hp => by
    rw [List.mem_filter] at hp; exact ⟨hp.1, bne_iff_ne.mp hp.2⟩
  refine ⟨a, ob, kn.filter (fun p => p.1 != a), e1, e3, e2, R.F, fun p hp => led_cases (P := fun p => h.get? p.1 = some p.2 ∧ p.1 ≠ c.L ∧ c.h₀.get? p.1 = none) hp (fun z => R.N p (mem_kn (key p z).1)) (fun z => R.N p (mem_im z)) fun z => ?_, (List.Sublist.map _ List.filter_sublist).nodup R.S.nd, ?_, by show as.ad.length = (setN σ.os i .gone).length; rw [setN_len, R.S.len], ?_, ?_, R.S.loc, fun q hq z hz => ?_⟩
  · rcases List.mem_cons.mp z with rfl | z
    · exact R.N _ (mem_kn e2)
    · exact R.N p (mem_rest z)
  · intro p hp q hq
    rcases List.mem_append.mp hq with hq | hq
    · exact R.S.ap p (key p hp).1 q (List.mem_append_left _ hq)
    · rcases List.mem_cons.mp hq with rfl | hq
      · exact Ne.symm (key p hp).2
      · exact R.S.ap p (key p hp).1 q (List.mem_append_right _ hq)
  · intro j oj ej gj
    rcases nth_setN ej with ⟨rfl, rfl⟩ | ⟨ne, ej⟩
    · exact absurd rfl gj
    · obtain ⟨b, ob2, f1, f2, f3⟩ := R.S.ok j oj ej gj
      refine ⟨b, ob2, f1, List.mem_filter.mpr ⟨f2, bne_iff_ne.mpr fun q => ne ?_⟩, f3⟩
      have q : b = a := q
      subst q
      exact R.S.inj j i _ oj o ej e gj g f1 e1
  · intro j k b oj ok ej ek gj gk qj qk
    rcases nth_setN ej with ⟨_, rfl⟩ | ⟨_, ej⟩
    · exact absurd rfl gj
    rcases nth_setN ek with ⟨_, rfl⟩ | ⟨_, ek⟩
    · exact absurd rfl gk
    exact R.S.inj j k b oj ok ej ek gj gk qj qk
  · rcases List.mem_cons.mp hz with rfl | hz
    · exact Ne.symm (R.S.ap _ e2 q (List.mem_append_left _ hq))
    · exact R.S.ir q hq z hz
theorem RepS.back {p : Addr × Obj} (R : RepS prog w ρ (c.with p) σ as m kn) {i : Nat} {o : SO} (e : nth σ.os i = some .gone) (ea : nth as.ad i = some p.1) (hI : IsO prog w ρ as p.1 o p.2) (hap : ∀ q ∈ c.rest, q.1 ≠ p.1) :
    RepS prog w ρ c (σ.set i o) as m (p :: kn) := by
  have off : ∀ q ∈ kn, q.1 ≠ p.1 := fun q hq => Ne.symm (R.ap q hq p (List.mem_append_right _ List.mem_cons_self))
  refine ⟨List.nodup_cons.mpr ⟨fun q => ?_, R.nd⟩, ?_, by show as.ad.length = (setN σ.os i o).length; rw [setN_len, R.len], ?_, ?_, R.loc, fun q hq z hz => R.ir q hq z (List.mem_cons_of_mem _ hz)⟩
  · obtain ⟨r, hr, e⟩ := List.mem_map.mp q; exact off r hr e
  · intro r hr q hq
    rcases List.mem_cons.mp hr with rfl | hr
    · rcases List.mem_append.mp hq with hq | hq
      · exact Ne.symm (R.ir q hq _ List.mem_cons_self)
      · exact hap q hq
    · rcases List.mem_append.mp hq with hq | hq
      · exact R.ap r hr q (List.mem_append_left _ hq)
      · exact R.ap r hr q (List.mem_append_right _ (List.mem_cons_of_mem _ hq))
  · intro j oj ej gj
    rcases nth_setN ej with ⟨rfl, rfl⟩ | ⟨ne, ej⟩
    · exact ⟨p.1, p.2, ea, List.mem_cons_self, hI⟩
    · obtain ⟨b, ob2, f1, f2, f3⟩ := R.ok j oj ej gj
      exact ⟨b, ob2, f1, List.mem_cons_of_mem _ f2, f3⟩
  · intro j k b oj ok ej ek gj gk qj qk
    rcases nth_setN ej with ⟨d1, _⟩ | ⟨nj, d1⟩ <;> rcases nth_setN ek with ⟨d2, _⟩ | ⟨nk, d2⟩
    · rw [d1, d2]
    · rw [d1, ea] at qj; cases qj
      obtain ⟨b, ob2, f1, f2, f3⟩ := R.ok k ok d2 gk
      rw [qk] at f1; cases f1
      exact (off (p.1, ob2) f2 rfl).elim
    · rw [d2, ea] at qk; cases qk
      obtain ⟨b, ob2, f1, f2, f3⟩ := R.ok j oj d1 gj
      rw [qj] at f1; cases f1
      exact (off (p.1, ob2) f2 rfl).elim
    · exact R.inj j k b oj ok d1 d2 gj gk qj qk
end
end Mine
end
section
open PySem PySem.W PyProof.Rows
namespace Mine
noncomputable abbrev NoE : Value → Shared → Prop := fun _ _ => False
structure CxOk (K : Frag) (p : Program) (loose : List Str) (c : Cx) (d : Nat) : Prop where
  ex : ∃ A₀ base outer mean mg mb, Below A₀ base outer c.h₀ ∧ Top p loose mean mg mb c.h₀ ∧ c.A.frames = some (c.fenv :: outer)
  X : K.In c.h₀
  fe : ∃ cn cs a ccd cl, c.fenv = envX cn cs c.L a ccd cl ∧ cs.kind = .function
  hh : c.A.handled = none
  hd : c.A.depth + 2 * d + 4 < recursionLimit
  hu : c.A.units + 8 * d + 100 < cLine
theorem CxOk.with {K : Frag} {p : Program} {loose : List Str} {c : Cx} {d : Nat} (h : CxOk K p loose c d) (q : Addr × Obj) : CxOk K p loose (c.with q) d := ⟨h.ex, h.X, h.fe, h.hh, h.hd, h.hu⟩
theorem CxOk.hl {K : Frag} {p : Program} {loose : List Str} {c : Cx} {d : Nat} (h : CxOk K p loose c d) : c.fenv.locals = c.L := by obtain ⟨_, _, _, _, _, e, _⟩ := h.fe; rw [e]
structure GOk (w : World) (ρ : Nat → Nat) (c : Cx) (Γ : SG) (env : Env) (as : AS) : Prop where
  names : env.scope.names = Γ.names
  kind : env.scope.kind = .function
  gl : env.globals = mainGlobals
  bl : env.builtins = builtinsNs
  cells : ∀ x i, lookS x Γ.cells = some i → ∃ a, nth as.ad i = some a ∧ env.cells.lookup x = some a
  own0 : Γ.own = none → env = c.fenv
  own1 : ∀ q, Γ.own = some q → ∃ oC m₂ y, (env.locals, oC) ∈ c.rest ∧ LCg.NsObj oC m₂ ∧ m₂ q.1 = some y ∧ IsV w ρ as q.2 y
section
variable {w : World} {ρ : Nat → Nat} {c : Cx} {Γ : SG} {env : Env} {as as' : AS}
theorem GOk.mono (h : Sub as as') (G : GOk w ρ c Γ env as) : GOk w ρ c Γ env as' := ⟨G.names, G.kind, G.gl, G.bl, fun x i e => let ⟨a, e1, e2⟩ := G.cells x i e; ⟨a, h.nth e1, e2⟩, G.own0, fun q e => let ⟨oC, m₂, y, e1, e2, e3, e4⟩ := G.own1 q e; ⟨oC, m₂, y, e1, e2, e3, e4.mono h⟩⟩
theorem GOk.with (G : GOk w ρ c Γ env as) (q : Addr × Obj) : GOk w ρ (c.with q) Γ env as := ⟨G.names, G.kind, G.gl, G.bl, G.cells, G.own0, fun z e => let ⟨oC, m₂, y, e1, e2⟩ := G.own1 z e; ⟨oC, m₂, y, List.mem_cons_of_mem _ e1, e2⟩⟩
theorem GOk.kindOf (G : GOk w ρ c Γ env as) (x : Str) : env.kindOf x = kindS Γ x := by
  show env.scope.names.lookup x = _
  rw [G.names]; exact (lookS_eq x _).symm
end
noncomputable def IsF (w : World) (ρ : Nat → Nat) (as : AS) : SF → Flow → Prop
  | .next, f => f = .next
  | .ret v, f => ∃ x, f = .ret x ∧ IsV w ρ as v x
section
variable (prog : Program) (w : World) (ρ : Nat → Nat)
noncomputable def After {α : Type} (c : Cx) (as : AS) (s : Shared) (m : Str → Option Value) (σ' : SS) (P : AS → α → Prop) (Q : α → Shared → Prop) : Prop :=
  ∀ h' tk as' kn' x, Sub as as' → Rep prog w ρ c h' σ' as' m kn' → P as' x → Q x { s with heap := h', toks := tk }
noncomputable def Tri {α : Type} (c : Cx) (as : AS) (σ : SS) (t : Sem α) (σ' : SS) (P : AS → α → Prop) : Prop :=
  ∀ (s : Shared) m kn (Q : α → Shared → Prop), Rep prog w ρ c s.heap σ as m kn → After prog w ρ c as s m σ' P Q → wpAny (model prog w) c.A t Q NoE s
noncomputable def AfterS {α : Type} (c : Cx) (as : AS) (s : Shared) (σ' : SS) (P : AS → α → Prop) (Q : α → Shared → Prop) : Prop :=
  ∀ h' tk as' m' kn' x, Sub as as' → Rep prog w ρ c h' σ' as' m' kn' → P as' x → Q x { s with heap := h', toks := tk }
noncomputable def TriS {α : Type} (c : Cx) (as : AS) (σ : SS) (t : Sem α) (σ' : SS) (P : AS → α → Prop) : Prop :=
  ∀ (s : Shared) m kn (Q : α → Shared → Prop), Rep prog w ρ c s.heap σ as m kn → AfterS prog w ρ c as s σ' P Q → wpAny (model prog w) c.A t Q NoE s
structure RcOk (K : Frag) (p : Program) (loose : List Str) (r : RC) : Prop where
  e : ∀ {Γ e σ v σ'}, r.e Γ e σ = some (v, σ') → ∀ {c env as}, CxOk K p loose c Γ.d → GOk w ρ c Γ env as → Tri prog w ρ c as σ (eval e env) σ' fun as' x => IsV w ρ as' v x
  t : ∀ {Γ e σ b σ'}, r.t Γ e σ = some (b, σ') → ∀ {c env as}, CxOk K p loose c Γ.d → GOk w ρ c Γ env as → Tri prog w ρ c as σ (isTrue e env (eval e env)) σ' fun _ x => x = b
  s : ∀ {Γ st σ f σ'}, r.s Γ st σ = some (f, σ') → ∀ {c env as}, CxOk K p loose c Γ.d → GOk w ρ c Γ env as → TriS prog w ρ c as σ (exec st env) σ' fun as' x => IsF w ρ as' f x
  w : ∀ {Γ t b σ f σ'}, r.w Γ t b σ = some (f, σ') → ∀ {c env as}, CxOk K p loose c Γ.d → GOk w ρ c Γ env as → ∀ (s : Shared) m kn (Q : Flow → Shared → Prop), Rep prog w ρ c s.heap σ as m kn → AfterS prog w ρ c as s σ' (fun as' x => IsF w ρ as' f x) Q → WhlRest prog w c.A NoE env t b [] Q 0 s
noncomputable def bindV (K : Frag) (fd : FuncData) (xs : List Value) : List (Str × Value) :=
  let ns := fd.params.args.map (·.arg)
  let ds := dfltsOf K fd
  ns.zip (xs ++ ds.drop (ds.length + xs.length - ns.length))
structure SPOk (p : Program) (loose : List Str) (P : SP) : Prop where
  gl1 : ∀ {x v}, P.gl x = some v → nsIn P.K mainGlobals x = some (some v)
  gl0 : ∀ {x b}, bltn x = some b → P.gl x = none → nsIn P.K mainGlobals x = some none ∧ bootBuiltins x = some b.v ∧ x ≠ Str.ofString "__name__"
  atr : ∀ {C x}, P.atr C x = true → findIn P.K (.ref C) x = some none ∧ plainGet P.K C x = true ∧ hasDictIn P.K C = true ∧ findIn P.K (.ref C) (Str.ofString "__setattr__") = some (some (.builtin "object.__setattr__")) ∧ plainOver P.K C = true
  meth : ∀ {C x f}, P.meth C x = some f → plainGet P.K C x = true ∧ findIn P.K (.ref C) x = some (some (.ref f)) ∧ isFn P.K (.ref f) = true
  mak : ∀ {a f}, P.mak a = some f → makesIn P.K a = true ∧ keepIn P.K (.ref a) = true ∧ findIn P.K (.ref a) (Str.ofString "__init__") = some (some (.ref f)) ∧ isFn P.K (.ref f) = true
  bind : ∀ {f n}, okPair f n P.tab = true → ∀ {fd}, fnAt P.K f = some fd → ∀ {xs : List Value}, xs.length = n → ∀ {s : Shared}, P.K.In s.heap → BindsTo s fd ⟨xs, []⟩ (bindV P.K fd xs)
  pr : ∀ {f vs σ v σ'}, P.pr f vs σ = some (v, σ') → keepIn P.K (.ref f) = true ∧ ∀ {c d as xs}, CxOk P.K p loose c d → 8 ≤ d → All2 (IsV w ρ as) vs xs → Tri prog w ρ c as σ (call (.ref f) xs) σ' fun as' x => IsV w ρ as' v x
  four : ρ 100 = 16
end
section
variable {prog : Program} {w : World} {ρ : Nat → Nat} {p : Program} {loose : List Str} {P : SP} {c : Cx} {Γ : SG} {env : Env} {as as1 as2 : AS} {σ σ' σ1 : SS} {r : RC} {s : Shared} {m : Str → Option Value} {kn : List (Addr × Obj)}
theorem After.up {α : Type} {T : AS → α → Prop} {Q : α → Shared → Prop} (h : After prog w ρ c as s m σ' T Q) (S : Sub as as1) {h' : Heap} {tk : Tok} : After prog w ρ c as1 { s with heap := h', toks := tk } m σ' T Q := fun h2 tk2 as2 kn2 x S2 R2 hx => h h2 tk2 as2 kn2 x (S.trans S2) R2 hx
theorem AfterS.up {α : Type} {T : AS → α → Prop} {Q : α → Shared → Prop} (h : AfterS prog w ρ c as s σ' T Q) (S : Sub as as1) {h' : Heap} {tk : Tok} : AfterS prog w ρ c as1 { s with heap := h', toks := tk } σ' T Q := fun h2 tk2 as2 m2 kn2 x S2 R2 hx => h h2 tk2 as2 m2 kn2 x (S.trans S2) R2 hx
theorem After.now {α : Type} {T : AS → α → Prop} {Q : α → Shared → Prop} (h : After prog w ρ c as s m σ T Q) (R : Rep prog w ρ c s.heap σ as m kn) {x : α} {tk : Tok} (hx : T as x) : Q x { s with toks := tk } := h s.heap tk as kn x (Sub.refl _) R hx
theorem AfterS.now {α : Type} {T : AS → α → Prop} {Q : α → Shared → Prop} (h : AfterS prog w ρ c as s σ T Q) (R : Rep prog w ρ c s.heap σ as m kn) {x : α} {tk : Tok} (hx : T as x) : Q x { s with toks := tk } := h s.heap tk as m kn x (Sub.refl _) R hx
theorem After.new {o : SO} {Q : Value → Shared → Prop} (ret : After prog w ρ c as s m (σ.push o) (fun as' x => IsV w ρ as' σ.nxt x) Q) (R : Rep prog w ρ c s.heap σ as m kn) {h' : Heap} {tk : Tok} {a : Addr} {ob : Obj}
    (F' : Fr c.h₀ c.L h' m) (N' : News c.h₀ c.L h' ((a, ob) :: led c as kn)) (lt : ∀ q ∈ led c as kn, q.1 < a) (hI : IsO prog w ρ (as.add a) a o ob) : Q (.ref a) { s with heap := h', toks := tk } :=
  ret h' tk _ _ _ (Sub.add as a) (R.push F' N' lt hI) ⟨a, Rep.last R.S a, rfl⟩
theorem size_ok {n : Nat} (h : n ≤ 1000) : n ≤ sizeLine := by rw [sizeLine_eq]; omega
theorem ble_ok {n : Nat} (h : ble1000 n = true) : n ≤ 1000 := Nat.le_of_ble_eq_true h
theorem After.lst {vs : List SV} {xs : List Value} {n : Nat} {Q : Value → Shared → Prop} (ret : After prog w ρ c as s m (σ.push (.list vs)) (fun as' x => IsV w ρ as' σ.nxt x) Q) (R : Rep prog w ρ c s.heap σ as m kn) {h' : Heap} {tk : Tok} {a : Addr}
    (F' : Fr c.h₀ c.L h' m) (N' : News c.h₀ c.L h' ((a, W.listOf xs.toArray n) :: led c as kn)) (lt : ∀ q ∈ led c as kn, q.1 < a) (hx : All2 (IsV w ρ as) vs xs) : Q (.ref a) { s with heap := h', toks := tk } :=
  ret.new R F' N' lt ⟨xs, n, rfl, hx.up (Sub.add _ _)⟩
theorem After.tup {vs : List SV} {xs : List Value} {Q : Value → Shared → Prop} (ret : After prog w ρ c as s m σ (fun as' x => IsV w ρ as' (.tup vs) x) Q) (R : Rep prog w ρ c s.heap σ as m kn) {h' : Heap} {tk : Tok} {a : Addr}
    (F' : Fr c.h₀ c.L h' m) (N' : News c.h₀ c.L h' ((a, tupO xs.toArray 0) :: led c as kn)) (lt : ∀ q ∈ led c as kn, q.1 < a) (hx : All2 (IsV w ρ as) vs xs) : Q (.ref a) { s with heap := h', toks := tk } :=
  ret h' tk _ _ _ (Sub.fix as _) (R.grow1 F' N' lt) ⟨a, xs, 0, rfl, List.mem_cons_self, all_isVs (hx.up (Sub.fix as _))⟩
theorem oCell_eq {o : SO} {q : Option SV} (h : oCell o = some q) : o = .cell q := by cases o <;> cases h; rfl
theorem oList_eq {o : SO} {q : List SV} (h : oList o = some q) : o = .list q := by cases o <;> cases h; rfl
theorem oInst_eq {o : SO} {q : Addr × Nat} (h : oInst o = some q) : o = .inst q.1 q.2 := by cases o <;> cases h; rfl
theorem oDict_eq {o : SO} {q : List (Str × SV)} (h : oDict o = some q) : o = .dict q := by cases o <;> cases h; rfl
theorem oHomes_eq {o : SO} {q : List (List Int × SV)} (h : oHomes o = some q) : o = .homes q := by cases o <;> cases h; rfl
theorem asLoc_eq {o : SV} {q : Nat} (h : asLoc o = some q) : o = .loc q := by cases o <;> cases h; rfl
theorem asInt_eq {o : SV} {q : Int} (h : asInt o = some q) : o = .int q := by cases o <;> cases h; rfl
theorem asStr_eq {o : SV} {q : Str} (h : asStr o = some q) : o = .str q := by cases o <;> cases h; rfl
theorem asBool_eq {o : SV} {q : Bool} (h : asBool o = some q) : o = .bool q := by cases o <;> cases h; rfl
theorem asSet_eq {o : SV} {q : List Nat} (h : asSet o = some q) : o = .set q := by cases o <;> cases h; rfl
theorem isNone_eq {α : Type} {o : Option α} (h : o.isNone = true) : o = none := by cases o with | none => rfl | some _ => cases h
theorem list_eq {v : SV} {q : Nat × List SV} {x : Value} (h : σ.list v = some q) (hx : IsV w ρ as v x) (R : Rep prog w ρ c s.heap σ as m kn) : ∃ a xs n, v = .loc q.1 ∧ nth σ.os q.1 = some (.list q.2) ∧ nth as.ad q.1 = some a ∧ x = .ref a ∧ (a, W.listOf xs.toArray n) ∈ kn ∧ All2 (IsV w ρ as) q.2 xs ∧ s.heap.IsList a xs.toArray := by
  (have hz9 := bnd_eq h; clear h; obtain ⟨i, h1, h⟩ := hz9)
  (have hz9 := bnd_eq h; clear h; obtain ⟨o, h2, h⟩ := hz9)
  (have hz9 := bnd_eq h; clear h; obtain ⟨vs, h3, h⟩ := hz9)
  cases h
  cases asLoc_eq h1
  cases oList_eq h3
  obtain ⟨a, e1, rfl⟩ := hx
  obtain ⟨a', ob, f1, f2, xs, n, rfl, f3⟩ := R.S.ok i _ h2 (by nofun)
  rw [e1] at f1; cases f1
  exact ⟨a, xs, n, rfl, h2, e1, rfl, f2, f3, _, (R.N _ (mem_kn f2)).1, rfl, n, rfl⟩
theorem notDebug_eq {x : Str} (h : notDebug x = true) : (x == ("__debug__" : Str)) = false := beq_eq_false_iff_ne.mpr (strEq_false (notB h))
theorem name_ok (H : SPOk prog w ρ p loose P) {x : Str} {pos : Pos} {v : SV} (hd : notDebug x = true) (h : lookN P Γ x σ = some v) (C : CxOk P.K p loose c Γ.d) (G : GOk w ρ c Γ env as) : Tri prog w ρ c as σ (eval (.Name x pos) env) σ fun as' y => IsV w ρ as' v y := by
  intro s m kn Q R ret
  have hd := notDebug_eq hd
  have hK := G.kindOf x
  unfold lookN at h
  cases q : kindS Γ x with
  | none => rw [q] at h; cases h
  | some k =>
    rw [q] at h hK
    cases k with
    | «local» =>
      cases q2 : Γ.own with
      | none =>
        rw [q2] at h
        obtain ⟨y, e1, e2⟩ := R.S.loc _ _ h
        cases G.own0 q2
        exact wpAny_Name (wpAny_loadName_local G.kind hK (by rw [C.hl]; exact R.F.ns) e1 (ret.now R e2)) hd
      | some u =>
        rw [q2] at h
        obtain ⟨oC, m₂, y, e1, e2, e3, e4⟩ := G.own1 u q2
        (have hz9 := chk_eq h; clear h; obtain ⟨q3, h⟩ := hz9)
        cases h
        cases strEq_iff.mp q3
        exact wpAny_Name (wpAny_loadName_local G.kind hK (e2.ns (R.N _ (mem_rest e1)).1) e3 (ret.now R e4)) hd
    | cell =>
      (have hz9 := bnd_eq h; clear h; obtain ⟨i, h1, h⟩ := hz9)
      (have hz9 := bnd_eq h; clear h; obtain ⟨o, h2, h⟩ := hz9)
      (have hz9 := bnd_eq h; clear h; obtain ⟨v', h3, h⟩ := hz9)
      cases h
      cases oCell_eq h3
      obtain ⟨a, ob, e1, e2, yv, e3, e4⟩ := R.S.ok i _ h2 (by nofun)
      obtain ⟨a', f1, f2⟩ := G.cells _ _ h1
      rw [e1] at f1; cases f1
      exact wpAny_Name (wpAny_loadName_cell G.kind hK f2 ⟨ob, (R.N _ (mem_kn e2)).1, e3⟩ (ret.now R e4)) hd
    | globalImplicit =>
      obtain ⟨A₀, base, outer, mean, mg, mb, B, T, _⟩ := C.ex
      have Tg := (T.keeps R.F.keep).g
      cases q2 : P.gl x with
      | some v' =>
        simp only [q2] at h
        cases h
        exact Calls.Name_function_global G.kind hK (Calls.loadGlobal_global (env := env) (by rw [G.gl]; exact Tg) (mg_of C.X T.g (H.gl1 q2)) (ret.now R IsV.ofV)) hd
      | none =>
        simp only [q2] at h
        (have hz9 := bnd_eq h; clear h; obtain ⟨b, h1, h⟩ := hz9)
        cases h
        obtain ⟨z1, z2, z3⟩ := H.gl0 h1 q2
        exact Calls.Name_function_global G.kind hK (Calls.loadGlobal_builtin (env := env) (by rw [G.gl]; exact Tg) (mg_none_of C.X T.g z1) (by rw [G.bl]; exact (T.keeps R.F.keep).b) ((T.builtins x z3).trans z2) (ret.now R rfl)) hd
    | _ => cases h
theorem const_ok {k : Const} {u : Nat} {pos : Pos} {v : SV} (h : constS k σ = some (v, σ')) : Tri prog w ρ c as σ (eval (.Constant k u pos) env) σ' fun as' y => IsV w ρ as' v y := by
  intro s m kn Q R ret
  cases k <;> cases h
  · exact wpAny_Constant_none (ret.now R rfl)
  · exact Constant_bool (ret.now R rfl)
  · exact wpAny_Constant_int (ret.now R ⟨_, rfl⟩)
  · exact Calls.Constant_str (ret.now R ⟨_, rfl⟩)
theorem noStar {e : PySem.Expr} (h : (!isStar e) = true) (rest : List PySem.Expr) (env : Env) : starEach (e :: rest) env = (false, eval e env) :: starEach rest env := by cases e <;> first | rfl | cases h
theorem evL_ok (H : RcOk prog w ρ P.K p loose r) (C : CxOk P.K p loose c Γ.d) {pos : Pos} : ∀ {es : List PySem.Expr} {σ σ' : SS} {vs : List SV} {as : AS}, evL r Γ es σ = some (vs, σ') → GOk w ρ c Γ env as →
    Tri prog w ρ c as σ (spliced (backTo pos (starEach es env))) σ' (fun as' xs => All2 (IsV w ρ as') vs xs) ∧ vs.length = es.length ∧ (backTo pos (starEach es env)).any (·.1) = false ∧ (backTo pos (starEach es env)).all (fun x => !x.1) = true
  | [], σ, σ', vs, as, h, G => by
    cases h
    exact ⟨fun s m kn Q R ret => args_nil (ret.now R trivial), rfl, rfl, rfl⟩
  | e :: es, σ, σ', vs, as, h, G => by
    (have hz9 := chk_eq h; clear h; obtain ⟨h1, h⟩ := hz9)
    (have hz9 := bn2_eq h; clear h; obtain ⟨v, σ1, h2, h⟩ := hz9)
    (have hz9 := bn2_eq h; clear h; obtain ⟨ws, σ2, h3, h⟩ := hz9)
    cases h
    obtain ⟨i1, i2, i3⟩ := (evL_ok H C (pos := pos) h3 G).2
    refine ⟨fun s m kn Q R ret => ?_, congrArg (· + 1) i1, ?_, ?_⟩
    · refine args_cons (H.e h2 C G s m kn _ R fun h' tk as' kn' x S R' hx => ?_) (noStar h1 es env)
      exact (evL_ok H C h3 (G.mono S)).1 { s with heap := h', toks := tk } m kn' _ R' fun h2 tk2 as2 kn2 xs S2 R2 hxs => ret h2 tk2 as2 kn2 _ (S.trans S2) R2 ⟨hx.mono S2, hxs⟩
    · rw [noStar h1 es env]; exact i2
    · rw [noStar h1 es env]; exact i3
end
end Mine
end
section
open PySem PySem.W PyProof.Rows
namespace Mine
section
variable {prog : Program} {w : World} {ρ : Nat → Nat} {p : Program} {loose : List Str} {P : SP} {c : Cx} {Γ : SG} {env : Env} {as as1 as2 : AS} {σ σ' σ1 : SS} {r : RC} {s : Shared} {m : Str → Option Value} {kn : List (Addr × Obj)}
theorem hand_ok {y : SV} {x : Value} (h : handS y = true) (hx : IsV w ρ as y x) : handedIn x = true := by
  cases y with
  | msk => obtain ⟨t, rfl⟩ := hx; rfl
  | int => obtain ⟨t, rfl⟩ := hx; rfl
  | str => obtain ⟨t, rfl⟩ := hx; rfl
  | bool => cases hx; rfl
  | none => cases hx; rfl
  | loc => obtain ⟨t, _, rfl⟩ := hx; rfl
  | tup => obtain ⟨t, _, _, rfl, _⟩ := hx; rfl
  | set => obtain ⟨t, _, rfl, _⟩ := hx; rfl
  | bi => cases h
  | fix => cases h
theorem inst_eq {v : SV} {q : Nat × Addr × Nat × List (Str × SV)} {x : Value} (h : instS v σ = some q) (hx : IsV w ρ as v x) (R : Rep prog w ρ c s.heap σ as m kn) : ∃ a da es n, x = .ref a ∧ nth σ.os q.2.2.1 = some (.dict q.2.2.2) ∧ nth as.ad q.2.2.1 = some da ∧ (a, instObj q.2.1 da) ∈ kn ∧ (da, dictOf es n) ∈ kn ∧ DictOk w ρ as q.2.2.2 es := by
  (have hz9 := bnd_eq h; clear h; obtain ⟨i, h1, h⟩ := hz9)
  (have hz9 := bnd_eq h; clear h; obtain ⟨o, h2, h⟩ := hz9)
  (have hz9 := bnd_eq h; clear h; obtain ⟨z, h3, h⟩ := hz9)
  (have hz9 := bnd_eq h; clear h; obtain ⟨o2, h4, h⟩ := hz9)
  (have hz9 := bnd_eq h; clear h; obtain ⟨fs, h5, h⟩ := hz9)
  cases h
  cases asLoc_eq h1
  cases oInst_eq h3
  cases oDict_eq h5
  obtain ⟨a, e1, rfl⟩ := hx
  obtain ⟨a', ob, f1, f2, da, f3, rfl⟩ := R.S.ok i _ h2 (by nofun)
  rw [e1] at f1; cases f1
  obtain ⟨da', od, g1, g2, es, n, rfl, g3⟩ := R.S.ok _ _ h4 (by nofun)
  rw [f3] at g1; cases g1
  exact ⟨a, da, es, n, rfl, h4, f3, f2, g2, g3⟩
theorem getA_ok (H : SPOk prog w ρ p loose P) {v y : SV} {x : Value} {name : Str} (h : getA P v name σ = some y) (hx : IsV w ρ as v x) (C : CxOk P.K p loose c Γ.d) : Tri prog w ρ c as σ (getAttr x name true) σ fun as' z => IsV w ρ as' y z := by
  intro s m kn Q R ret
  (have hz9 := bnd_eq h; clear h; obtain ⟨q, h1, h⟩ := hz9)
  (have hz9 := chk_eq h; clear h; obtain ⟨h2, h⟩ := hz9)
  (have hz9 := bnd_eq h; clear h; obtain ⟨y', h3, h⟩ := hz9)
  (have hz9 := chk_eq h; clear h; obtain ⟨h4, h⟩ := hz9)
  cases h
  obtain ⟨a, da, es, n, rfl, _, _, f2, g2, g3⟩ := inst_eq h1 hx R
  obtain ⟨yv, g5, g6⟩ := (g3.2 name).1 _ h3
  obtain ⟨z1, z2, z3, _⟩ := H.atr h2
  exact get_own R.F C.X (InstAt.of_news R.N (mem_kn f2) (mem_kn g2)) z2 z3 z1 rfl g5 (hand_ok h4 g6) (ret.now R g6)
theorem getL_put_ne {name x : Str} {hs : Int} {t : Tok} {v : Value} (ne : x ≠ name) : ∀ es : List DictEntry, getL x (putL name hs (.str name t) v es) = getL x es
  | [] => by
    have : (name == x) = false := beq_eq_false_iff_ne.mpr (Ne.symm ne)
    simp [putL, getL, Value.isStr, this, DictEntry.refKey]
  | e :: r => by
    have ih := getL_put_ne (hs := hs) (t := t) (v := v) ne r
    unfold putL
    by_cases he : e.key.isStr name = true
    · rw [if_pos he]
      have hx : e.key.isStr x = false := by
        cases hk : e.key with
        | str k t =>
          rw [hk] at he
          have : k = name := by simpa [Value.isStr] using he
          subst this
          simp [Value.isStr, Ne.symm ne]
        | _ => rfl
      simp [getL, hx, DictEntry.refKey]
    · rw [if_neg he]
      unfold getL at ih ⊢
      simp only [List.find?_cons, List.any_cons]
      cases hx : e.key.isStr x with
      | true => rfl
      | false =>
        simp only
        cases q1 : List.find? (fun x_1 => x_1.key.isStr x) (putL name hs (Value.str name t) v r) <;> cases q2 : List.find? (fun x_1 => x_1.key.isStr x) r <;> rw [q1, q2] at ih <;> simp only at ih ⊢
        · by_cases z : e.refKey = true
          · simp [z]
          · simp only [Bool.not_eq_true] at z; simp only [z, Bool.false_or]; exact ih
        · split at ih <;> cases ih
        · split at ih <;> cases ih
        · exact ih
theorem putS_new {α : Type} {x : Str} {v : α} : ∀ {l : List (Str × α)}, lookS x l = none → (putS x v l).length = l.length + 1
  | [], _ => rfl
  | q :: r, h => by
    replace h : (bif strEq x q.1 then some q.2 else lookS x r) = none := h
    show (bif strEq x q.1 then (q.1, v) :: r else q :: putS x v r).length = _
    cases z : strEq x q.1 with
    | true => rw [z] at h; cases h
    | false => rw [z] at h; exact congrArg (· + 1) (putS_new h)
theorem dict_put {fs : List (Str × SV)} {es : List DictEntry} {name : Str} {hs : Int} {t : Tok} {y : SV} {x : Value} (d : DictOk w ρ as fs es) (hy : IsV w ρ as y x) : DictOk w ρ as (putS name y fs) (putL name hs (.str name t) x es) := by
  constructor
  · cases q : lookS name fs with
    | some v =>
      obtain ⟨_, e, _⟩ := (d.2 name).1 v q
      rw [putL_same es e]
      exact Nat.le_trans d.1 (putS_len ..)
    | none => rw [putS_new q]; exact Nat.le_trans (putL_len es) (Nat.succ_le_succ d.1)
  · intro z
    rw [lookS_putS]
    by_cases q : z = name
    · rw [if_pos q, q]; exact ⟨fun v e => by cases e; exact ⟨x, getL_put es, hy⟩, fun e => nomatch e⟩
    · rw [if_neg q, getL_put_ne q]; exact d.2 z
theorem setA_ok (H : SPOk prog w ρ p loose P) {v y : SV} {x z : Value} {name : Str} (h : setA P v name y σ = some σ') (hx : IsV w ρ as v x) (hz : IsV w ρ as y z) (C : CxOk P.K p loose c Γ.d) : Tri prog w ρ c as σ (setAttr x name z) σ' fun _ _ => True := by
  intro s m kn Q R ret
  (have hz9 := bnd_eq h; clear h; obtain ⟨q, h1, h⟩ := hz9)
  (have hz9 := chk_eq h; clear h; obtain ⟨h2, h⟩ := hz9)
  cases h
  obtain ⟨h2, h3⟩ := andB h2
  obtain ⟨a, da, es, n, rfl, h4, f3, f2, g2, g3⟩ := inst_eq h1 hx R
  obtain ⟨da', od, g1, g2', ⟨es', n', rfl, g3'⟩, G, _, U⟩ := R.upd h4 (by nofun)
  obtain ⟨z1, z2, z3, z4, z5⟩ := H.atr h2
  have hs : (getL name es').isSome = true := by
    cases q : lookS name q.2.2.2 with
    | none => rw [(g3'.2 name).2 q]; rfl
    | some v => obtain ⟨_, g5, _⟩ := (g3'.2 name).1 v q; rw [g5]; rfl
  rw [f3] at g1; cases g1
  obtain ⟨u1, u2⟩ := U (dictOf (putL name (PyData.keyHash w.params name) (.str name (s.toks + 1)) z es') (putN name es' n')) (.dict (putS name y q.2.2.2))
  refine set_dict (ox := instObj q.2.1 da) R.F C.X R.N (InstAt.of_news R.N (mem_kn f2) (mem_kn g2')) rfl z4 z5 (by unfold takerIn; rw [z1]; rfl) z3 hs rfl u1 (Nat.le_trans (putL_len es') (by have := g3'.1; have := Nat.le_of_ble_eq_true h3; omega)) fun h' F' N' => ?_
  exact ret h' _ as _ _ (Sub.refl _) (u2 ⟨_, _, rfl, dict_put g3' hz⟩ h' F' N') trivial
theorem small_ok {k : Int} (h : small k = true) : 0 ≤ k ∧ k ≤ 1000 := by
  cases k with
  | ofNat n => exact ⟨Int.natCast_nonneg n, by have : n ≤ 1000 := Nat.le_of_ble_eq_true h; show ((n : Nat) : Int) ≤ 1000; omega⟩
  | negSucc n => cases h
theorem sub_plain {slice : PySem.Expr} (h : isSlice slice = false) (o i : Value) : subscripted slice false o i = operate [o, i] (getItem o i) := by cases slice <;> first | rfl | cases h
theorem itemS_ok {v iv y : SV} {x z : Value} {value slice : PySem.Expr} (h : itemS v iv σ = some y) (hsl : isSlice slice = false) (hx : IsV w ρ as v x) (hz : IsV w ρ as iv z) : Tri prog w ρ c as σ (subscriptTail value slice x z) σ fun as' u => IsV w ρ as' y u := by
  intro s m kn Q R ret
  (have hz9 := bnd_eq h; clear h; obtain ⟨k, h2, h⟩ := hz9)
  (have hz9 := chk_eq h; clear h; obtain ⟨h3, h⟩ := hz9)
  cases asInt_eq h2
  obtain ⟨t, rfl⟩ := hz
  obtain ⟨k0, k1⟩ := small_ok h3
  have lst : (bnd (σ.list v) fun q => nth q.2 k.toNat) = some y → wpAny (model prog w) c.A (subscriptTail value slice x (.int k t)) Q NoE s := fun h => by
    obtain ⟨q, h4, h5⟩ := bnd_eq h
    obtain ⟨a, xs, n, _, _, _, rfl, _, f3, f4⟩ := list_eq h4 hx R
    obtain ⟨yv, g1, g2⟩ := f3.nth h5
    exact item_litK f4 k0 (by omega) g1 (ret.now R g2) (sub_plain hsl _ _)
  cases v with
  | tup vs =>
    obtain ⟨a, xs, n, rfl, f2, f3⟩ := hx
    obtain ⟨yv, g1, g2⟩ := (isVs_all f3).nth h
    have hl : k.toNat < xs.length := by obtain ⟨q, _⟩ := List.getElem?_eq_some_iff.mp g1; exact q
    refine item_tupleT (j := k.toNat) ⟨_, (R.N _ (mem_im f2)).1, rfl, n, rfl⟩ (by omega) (by omega) ?_ g1 (ret.now R g2) (sub_plain hsl _ _)
    unfold seqIndex?
    simp only [if_neg (Int.not_lt.mpr k0)]
    rw [if_pos]
    simp only [Bool.and_eq_true, decide_eq_true_eq]
    omega
  | _ => exact lst h
theorem ki_set_some : ∀ {xs : List Value} {n : Nat} {v : Value}, n < xs.length → ki_setL xs n v = some (xs.set n v)
  | _ :: _, 0, _, _ => rfl
  | a :: l, n + 1, v, h => by
    have ih := ki_set_some (xs := l) (n := n) (v := v) (Nat.lt_of_succ_lt_succ h)
    simp only [ki_setL, ih, List.set_cons_succ]
    try rfl
theorem setI_ok {v iv y : SV} {x z u : Value} (h : setI v iv y σ = some σ') (hx : IsV w ρ as v x) (hz : IsV w ρ as iv z) (hu : IsV w ρ as y u) : Tri prog w ρ c as σ (setItem x z u) σ' fun _ _ => True := by
  intro s m kn Q R ret
  (have hz9 := bnd_eq h; clear h; obtain ⟨k, h2, h⟩ := hz9)
  (have hz9 := chk_eq h; clear h; obtain ⟨h3, h⟩ := hz9)
  (have hz9 := bnd_eq h; clear h; obtain ⟨q, h4, h⟩ := hz9)
  (have hz9 := bnd_eq h; clear h; obtain ⟨old, h5, h⟩ := hz9)
  cases h
  cases asInt_eq h2
  obtain ⟨t, rfl⟩ := hz
  obtain ⟨k0, k1⟩ := small_ok h3
  obtain ⟨a, xs, n, rfl, e1, e2, rfl, _⟩ := list_eq h4 hx R
  obtain ⟨a', ob, f1, f2, ⟨xs, n, rfl, f3⟩, G, _, U⟩ := R.upd e1 (by nofun)
  rw [e2] at f1; cases f1
  have hl : k.toNat < xs.length := f3.len ▸ nth_lt h5
  obtain ⟨u1, u2⟩ := U (W.listOf (xs.set k.toNat u).toArray n) (.list (setN q.2 k.toNat y))
  refine ki_set R.F R.N k0 (by omega) (by rw [ki_set_some (by simpa using hl)]) u1 fun h' F' N' => ?_
  exact ret h' _ as _ _ (Sub.refl _) (u2 ⟨_, _, rfl, f3.setN hu⟩ h' F' N') trivial
end
end Mine
end
section
open PySem PySem.W PyProof.Rows
namespace Mine
theorem two_eq {α : Type} : ∀ {l : List α} {q : α × α}, two l = some q → l = [q.1, q.2]
  | [_, _], _, h => by cases h; rfl
  | [], _, h => nomatch h
  | [_], _, h => nomatch h
  | _ :: _ :: _ :: _, _, h => nomatch h
theorem asTup_eq {o : SV} {q : List SV} (h : asTup o = some q) : o = .tup q := by cases o <;> cases h; rfl
theorem asMsk_eq {o : SV} {q : List Nat} (h : asMsk o = some q) : o = .msk q := by cases o <;> cases h; rfl
section
variable {prog : Program} {w : World} {ρ : Nat → Nat} {p : Program} {loose : List Str} {P : SP} {c : Cx} {Γ : SG} {env : Env} {as as1 as2 : AS} {σ σ' σ1 : SS} {r : RC} {s : Shared} {m : Str → Option Value} {kn : List (Addr × Obj)}
theorem mval_snoc (ρ : Nat → Nat) (i : Nat) : ∀ a, mval ρ (a ++ [i]) = mval ρ a ||| ρ i
  | [] => (Nat.or_zero _).trans (Nat.zero_or _).symm
  | j :: r => by show ρ j ||| mval ρ (r ++ [i]) = _; rw [mval_snoc ρ i r]; exact (Nat.or_assoc ..).symm
theorem mval_has {ρ : Nat → Nat} {i : Nat} : ∀ {a}, hasN i a = true → mval ρ a ||| ρ i = mval ρ a
  | j :: r, h => by
    rcases Bool.or_eq_true_iff.mp (show (Nat.beq i j || hasN i r) = true from h) with h | h
    · rw [Nat.eq_of_beq_eq_true h]
      show ρ j ||| mval ρ r ||| ρ j = ρ j ||| mval ρ r
      rw [Nat.or_comm, ← Nat.or_assoc, Nat.or_self]
    · show ρ j ||| mval ρ r ||| ρ i = ρ j ||| mval ρ r
      rw [Nat.or_assoc, mval_has h]
theorem mval_join (ρ : Nat → Nat) : ∀ b a, mval ρ (join a b) = mval ρ a ||| mval ρ b
  | [], a => (Nat.or_zero _).symm
  | i :: r, a => by
    show mval ρ (join (bif hasN i a then a else a ++ [i]) r) = mval ρ a ||| (ρ i ||| mval ρ r)
    rw [mval_join ρ r, ← Nat.or_assoc]
    cases h : hasN i a with
    | true => rw [mval_has h]; rfl
    | false => exact congrArg (· ||| _) (mval_snoc ρ i a)
theorem bits_ok {a : Int} (h0 : 0 ≤ a) (h1 : a ≤ 1000) : Builtin.Int.intBits a ≤ 64 := intBits_le_64 (by omega) (by omega)
theorem addS_ok {a b v : SV} {x y : Value} (h : addS a b σ = some (v, σ')) (hx : IsV w ρ as a x) (hy : IsV w ρ as b y) : Tri prog w ρ c as σ (binaryOp .Add x y) σ' fun as' z => IsV w ρ as' v z := by
  intro s m kn Q R ret
  have lst : (bnd (σ.list a) fun p => bnd (σ.list b) fun q => chk (ble1000 (p.2.length + q.2.length)) (some (σ.nxt, σ.push (.list (p.2 ++ q.2))))) = some (v, σ') → wpAny (model prog w) c.A (binaryOp .Add x y) Q NoE s := fun h => by
    (have hz9 := bnd_eq h; clear h; obtain ⟨p, h1, h⟩ := hz9)
    (have hz9 := bnd_eq h; clear h; obtain ⟨q, h2, h⟩ := hz9)
    (have hz9 := chk_eq h; clear h; obtain ⟨h3, h⟩ := hz9)
    cases h
    obtain ⟨a, xs, n, _, _, _, rfl, _, f3, f4⟩ := list_eq h1 hx R
    obtain ⟨b, ys, n2, _, _, _, rfl, _, g3, g4⟩ := list_eq h2 hy R
    have hl := ble_ok h3
    rw [f3.len, g3.len] at hl
    exact kmk_add_lit (zs := xs ++ ys) R.F R.N f4 g4 rfl (fun D h' F' N' lt => ret.lst R F' N' lt (f3.app g3)) (size_ok (by show xs.length + ys.length ≤ 1000; exact hl))
  cases a with
  | int a =>
    cases b with
    | int b => cases h; obtain ⟨t, rfl⟩ := hx; obtain ⟨u, rfl⟩ := hy; exact add_int (ret.now R ⟨_, rfl⟩)
    | _ => exact lst h
  | _ => exact lst h
theorem orS_ok {a b v : SV} {x y : Value} (h : orS a b σ = some (v, σ')) (hx : IsV w ρ as a x) (hy : IsV w ρ as b y) : Tri prog w ρ c as σ (binaryOp .BitOr x y) σ' fun as' z => IsV w ρ as' v z := by
  intro s m kn Q R ret
  cases a with
  | int a =>
    cases b with
    | int b => cases h; obtain ⟨t, rfl⟩ := hx; obtain ⟨u, rfl⟩ := hy; exact or_int (ret.now R ⟨_, rfl⟩)
    | _ => cases h
  | msk a =>
    cases b with
    | msk b => cases h; obtain ⟨t, rfl⟩ := hx; obtain ⟨u, rfl⟩ := hy; exact orNat (ret.now R ⟨_, by rw [mval_join]⟩)
    | _ => cases h
  | set a =>
    cases b with
    | set b =>
      cases h
      obtain ⟨x, ox, rfl, f1, f2⟩ := hx
      obtain ⟨y, oy, rfl, g1, g2⟩ := hy
      refine or_N (led0 := as.im) (led1 := as.im) R.F R.N f1 (fun _ => mem_im) f2 g1 (fun _ => mem_im) g2 fun h' c' o' F' N' hM ne => ?_
      refine ret h' s.toks (as.fix [(c', o')]) kn _ (Sub.fix _ _) (R.grow F' N' fun p hp q hq => by rw [List.mem_singleton.mp hp]; exact ne q hq) ⟨c', o', rfl, List.mem_cons_self, ?_⟩
      rw [mval_join]; exact hM
    | _ => cases h
  | _ => cases h
theorem binS_ok {op : Operator} {a b v : SV} {x y : Value} (h : binS op a b σ = some (v, σ')) (hx : IsV w ρ as a x) (hy : IsV w ρ as b y) : Tri prog w ρ c as σ (binaryOp op x y) σ' fun as' z => IsV w ρ as' v z := by
  cases op with
  | Add => exact addS_ok h hx hy
  | BitOr => exact orS_ok h hx hy
  | Sub =>
    intro s m kn Q R ret
    (have hz9 := bnd_eq h; clear h; obtain ⟨k, h1, h⟩ := hz9)
    (have hz9 := bnd_eq h; clear h; obtain ⟨l, h2, h⟩ := hz9)
    cases h
    cases asInt_eq h1; cases asInt_eq h2
    obtain ⟨t, rfl⟩ := hx; obtain ⟨u, rfl⟩ := hy
    exact sub_int (ret.now R ⟨_, rfl⟩)
  | LShift =>
    intro s m kn Q R ret
    (have hz9 := bnd_eq h; clear h; obtain ⟨k, h1, h⟩ := hz9)
    (have hz9 := bnd_eq h; clear h; obtain ⟨l, h2, h⟩ := hz9)
    (have hz9 := chk_eq h; clear h; obtain ⟨h3, h⟩ := hz9)
    cases h
    cases asInt_eq h1; cases asInt_eq h2
    obtain ⟨t, rfl⟩ := hx; obtain ⟨u, rfl⟩ := hy
    obtain ⟨a0, a1⟩ := small_ok (andB h3).1
    obtain ⟨b0, b1⟩ := small_ok (andB h3).2
    have hb := bits_ok a0 a1
    exact lshift_int b0 (by omega) (ret.now R ⟨_, rfl⟩)
  | Mult =>
    intro s m kn Q R ret
    (have hz9 := bnd_eq h; clear h; obtain ⟨p, h1, h⟩ := hz9)
    (have hz9 := bnd_eq h; clear h; obtain ⟨k, h2, h⟩ := hz9)
    (have hz9 := chk_eq h; clear h; obtain ⟨h3, h⟩ := hz9)
    cases h
    cases asInt_eq h2
    obtain ⟨u, rfl⟩ := hy
    obtain ⟨a, xs, n, _, _, _, rfl, _, f3, f4⟩ := list_eq h1 hx R
    obtain ⟨b0, b1⟩ := small_ok (andB h3).1
    exact PySem.W.KMa.mul (ws := List.flatten (List.replicate k.toNat xs)) R.F R.N f4 (by omega) (by omega) (by rw [← f3.len]; exact Nat.le_of_ble_eq_true (andB h3).2) rfl (fun D h' F' N' lt => ret.lst R F' N' lt (f3.rep _))
  | _ => cases h
theorem all_of {α : Type} {f : SV → Option α} {S : Value → α → Prop} (hf : ∀ {v a x}, f v = some a → IsV w ρ as v x → S x a) : ∀ {vs : List SV} {ys : List α} {xs : List Value}, allOf f vs = some ys → All2 (IsV w ρ as) vs xs → All2 S xs ys
  | [], ys, [], h, _ => by cases h; trivial
  | v :: vs, ys, x :: xs, h, hx => by
    (have hz9 := bnd_eq h; clear h; obtain ⟨k, h1, h⟩ := hz9)
    (have hz9 := bnd_eq h; clear h; obtain ⟨l, h2, h⟩ := hz9)
    cases h
    exact ⟨hf h1 hx.1, all_of hf h2 hx.2⟩
theorem strs_of : ∀ {xs : List Value} {ys : List Str}, All2 (fun x k => ∃ t, x = .str k t) xs ys → StrsAre xs ys
  | [], [], _ => .nil
  | _ :: _, _ :: _, ⟨⟨t, e⟩, h⟩ => by cases e; exact .cons _ t (strs_of h)
theorem ints_of : ∀ {xs : List Value} {ys : List Int}, All2 (fun x k => ∃ t, x = .int k t) xs ys → IntsAre xs ys
  | [], [], _ => .nil
  | _ :: _, _ :: _, ⟨⟨t, e⟩, h⟩ => by cases e; exact .cons _ t (ints_of h)
theorem reads_of {h : Heap} : ∀ {xs : List Value} {ds : List PyData}, All2 (fun x d => Reads h x d []) xs ds → ReadsAll h xs ds []
  | [], [], _ => .nil
  | _ :: _, _ :: _, ⟨e, k⟩ => .cons e (reads_of k)
theorem strs_ok {vs : List SV} {ys : List Str} {xs : List Value} (h : allOf asStr vs = some ys) (hx : All2 (IsV w ρ as) vs xs) : StrsAre xs ys := strs_of (all_of (fun e i => by cases asStr_eq e; exact i) h hx)
theorem ints_ok {vs : List SV} {ys : List Int} {xs : List Value} (h : allOf asInt vs = some ys) (hx : All2 (IsV w ρ as) vs xs) : IntsAre xs ys := ints_of (all_of (fun e i => by cases asInt_eq e; exact i) h hx)
theorem data_ok {h : Heap} {vs : List SV} {ds : List PyData} {xs : List Value} (e : allOf asData vs = some ds) (hx : All2 (IsV w ρ as) vs xs) : ReadsAll h xs ds [] := reads_of (all_of (fun {v a x} e i => by
  cases v <;> cases e
  · obtain ⟨t, rfl⟩ := i; exact .int _ t
  · obtain ⟨t, rfl⟩ := i; exact .str _ t) e hx)
theorem anyStr_eq (x : Str) : ∀ l : List Str, anyStr x l = l.any fun y => y == x
  | [] => rfl
  | y :: r => by
    rw [List.any_cons, ← anyStr_eq x r, show (y == x) = strEq x y from by rw [strEq_beq, Bool.eq_iff_iff, beq_iff_eq, beq_iff_eq]; exact eq_comm]; rfl
noncomputable def valK (ρ : Nat → Nat) (ps : List (Int × List Nat)) : List (Int × Nat) := ps.map fun q => (q.1, mval ρ q.2)
theorem ker_of {news : List (Addr × Obj)} (hs : ∀ q ∈ as.im, q ∈ news) {v : SV} {ps : List (Int × List Nat)} {x : Value} (h : asKer v = some ps) (hx : IsV w ρ as v x) : ∃ a, x = .ref a ∧ KerAt news x (valK ρ ps) := by
  (have hz9 := bnd_eq h; clear h; obtain ⟨vs, h1, h⟩ := hz9)
  cases asTup_eq h1
  obtain ⟨a, xs, n, rfl, f2, f3⟩ := hx
  have f3 := isVs_all f3
  have key := all_of (S := fun x q => PairAt news x (q.1, mval ρ q.2)) (fun {v q x} e i => by
    obtain ⟨us, e1, e⟩ := bnd_eq e
    obtain ⟨u1, u2, e2, e⟩ := bn2_eq e
    obtain ⟨k, e3, e⟩ := bnd_eq e
    obtain ⟨l, e4, e⟩ := bnd_eq e
    cases e
    cases asTup_eq e1; cases two_eq e2; cases asInt_eq e3; cases asMsk_eq e4
    obtain ⟨b, ys, n, rfl, g2, g3⟩ := i
    match ys, g3 with
    | [_, _], ⟨⟨t, rfl⟩, ⟨u, rfl⟩, _⟩ => exact ⟨b, t, u, n, rfl, hs _ g2⟩) h f3
  refine ⟨a, rfl, a, xs.toArray, n, rfl, hs _ f2, ?_, fun i y z h1 h2 => ?_⟩
  · rw [valK, List.length_map, List.size_toArray]; exact key.len
  · rw [valK, List.getElem?_map, Option.map_eq_some_iff] at h2
    obtain ⟨q, h3, rfl⟩ := h2
    obtain ⟨y', e1, e2⟩ := key.nthR h3
    rw [nth_eq] at e1
    rw [List.getElem?_toArray, e1] at h1
    cases h1; exact e2
theorem meqs_eq : ∀ {a b : List (List Nat)}, meqs a b = true → a = b
  | [], [], _ => rfl
  | _ :: _, _ :: _, h => by obtain ⟨h1, h2⟩ := andB h; rw [natsEq_iff.mp h1, meqs_eq h2]
  | [], _ :: _, h => nomatch h
  | _ :: _, [], h => nomatch h
theorem intsEq_iff : ∀ {a b : List Int}, intsEq a b = true ↔ a = b
  | [], [] => ⟨fun _ => rfl, fun _ => rfl⟩
  | [], _ :: _ => ⟨fun h => (nomatch h), fun h => (nomatch h)⟩
  | _ :: _, [] => ⟨fun h => (nomatch h), fun h => (nomatch h)⟩
  | a :: x, b :: y => ⟨fun h => by obtain ⟨h1, h2⟩ := andB h; rw [of_decide_eq_true h1, intsEq_iff.mp h2], fun h => by cases h; exact Bool.and_eq_true_iff.mpr ⟨decide_eq_true rfl, intsEq_iff.mpr rfl⟩⟩
theorem zip_eq {α β : Type} : ∀ {a b : List (α × β)}, a.map (·.1) = b.map (·.1) → a.map (·.2) = b.map (·.2) → a = b
  | [], [], _, _ => rfl
  | a :: x, b :: y, h, k => by
    rw [List.map_cons, List.map_cons] at h k
    injection h with h1 h2; injection k with k1 k2
    rw [zip_eq h2 k2, Prod.ext h1 k1]
  | [], _ :: _, h, _ => nomatch h
  | _ :: _, [], h, _ => nomatch h
theorem eqS_ok {a b : SV} {v : Bool} {x y : Value} (h : eqS a b σ = some v) (hx : IsV w ρ as a x) (hy : IsV w ρ as b y) (hu : c.A.units + 64 < cLine) : Tri prog w ρ c as σ (compareOp .Eq x y) σ fun _ z => z = .bool v := by
  intro s m kn Q R ret
  have lst : (bnd (σ.list a) fun p => bnd (σ.list b) fun q => bnd (allOf asData p.2) fun ds => chk (q.2.isEmpty && PySem.SeqAt.shaped (.list ds)) (some ds.isEmpty)) = some v → wpAny (model prog w) c.A (compareOp .Eq x y) Q NoE s := fun h => by
    (have hz9 := bnd_eq h; clear h; obtain ⟨p, h1, h⟩ := hz9)
    (have hz9 := bnd_eq h; clear h; obtain ⟨q, h2, h⟩ := hz9)
    (have hz9 := bnd_eq h; clear h; obtain ⟨ds, h3, h⟩ := hz9)
    (have hz9 := chk_eq h; clear h; obtain ⟨h4, h⟩ := hz9)
    obtain ⟨a, xs, n, _, _, _, rfl, f2, f3, f4⟩ := list_eq h1 hx R
    obtain ⟨b, ys, n2, _, _, _, rfl, g2, g3, g4⟩ := list_eq h2 hy R
    rw [List.isEmpty_iff.mp (andB h4).1] at g3
    cases ys with
    | cons => exact g3.elim
    | nil =>
      refine eq_dataH (da := .list ds) (db := .list []) (reads_list_at (R.N _ (mem_kn f2)).1 rfl rfl (data_ok h3 f3)) (reads_list_at (R.N _ (mem_kn g2)).1 rfl rfl .nil) (andB h4).2 (by decide +kernel) hu ?_
      refine ret.now R (tk := s.toks) ?_
      cases h
      cases ds <;> rfl
  cases a with
  | int a => cases b with
    | int b =>
      cases h; obtain ⟨t, rfl⟩ := hx; obtain ⟨u, rfl⟩ := hy
      exact eq_int (ret.now R (congrArg Value.bool (by rw [Bool.eq_iff_iff, beq_iff_eq]; exact decide_eq_true_iff.symm)))
    | _ => exact lst h
  | str a => cases b with
    | str b => cases h; obtain ⟨t, rfl⟩ := hx; obtain ⟨u, rfl⟩ := hy; exact eq_str (ret.now R (congrArg Value.bool (strEq_beq _ _).symm))
    | _ => exact lst h
  | bool a => cases b with
    | bool b => cases h; cases hx; cases hy; exact eq_bool (ret.now R rfl)
    | _ => exact lst h
  | _ => exact lst h
theorem cmpS_ok {op : CmpOp} {a b : SV} {v : Bool} {x y : Value} (h : cmpS P op a b σ = some v) (hx : IsV w ρ as a x) (hy : IsV w ρ as b y) (hu : c.A.units + 64 < cLine) : Tri prog w ρ c as σ (compareOp op x y) σ fun _ z => z = .bool v := by
  have ker : (bnd (asKer a) fun ps => bnd (asKer b) fun qs => chk (intsEq (ps.map (·.1)) (qs.map (·.1)) && meqs (ps.map (·.2)) (qs.map (·.2)) && Nat.ble ps.length 8) (some false)) = some v → Tri prog w ρ c as σ (compareOp .NotEq x y) σ fun _ z => z = .bool v := fun h s m kn Q R ret => by
    (have hz9 := bnd_eq h; clear h; obtain ⟨ps, h1, h⟩ := hz9)
    (have hz9 := bnd_eq h; clear h; obtain ⟨qs, h2, h⟩ := hz9)
    (have hz9 := chk_eq h; clear h; obtain ⟨h3, h⟩ := hz9)
    cases h
    obtain ⟨h4, h5⟩ := andB (andB h3).1
    cases zip_eq (intsEq_iff.mp h4) (meqs_eq h5)
    obtain ⟨a, rfl, k1⟩ := ker_of (fun _ => mem_im (c := c) (kn := kn)) h1 hx
    obtain ⟨b, rfl, k2⟩ := ker_of (fun _ => mem_im (c := c) (kn := kn)) h2 hy
    exact kerNe R.N k1 k2 rfl (by omega) (ret.now R (congrArg Value.bool (decide_eq_false fun q => q rfl)))
  intro s m kn Q R ret
  cases op with
  | Eq => exact eqS_ok h hx hy hu s m kn Q R ret
  | NotEq =>
    cases a with
    | int a =>
      (have hz9 := bnd_eq h; clear h; obtain ⟨k, h1, h⟩ := hz9)
      cases h
      cases asInt_eq h1; obtain ⟨t, rfl⟩ := hx; obtain ⟨u, rfl⟩ := hy
      exact ne_int (ret.now R rfl)
    | bool a =>
      (have hz9 := bnd_eq h; clear h; obtain ⟨k, h1, h⟩ := hz9)
      cases h
      cases asBool_eq h1; cases hx; cases hy
      exact ne_bool (ret.now R rfl)
    | _ => exact ker h s m kn Q R ret
  | Lt =>
    (have hz9 := bnd_eq h; clear h; obtain ⟨k, h1, h⟩ := hz9)
    (have hz9 := bnd_eq h; clear h; obtain ⟨l, h2, h⟩ := hz9)
    cases h
    cases asInt_eq h1; cases asInt_eq h2; obtain ⟨t, rfl⟩ := hx; obtain ⟨u, rfl⟩ := hy
    exact lt_int (ret.now R rfl)
  | LtE =>
    (have hz9 := bnd_eq h; clear h; obtain ⟨k, h1, h⟩ := hz9)
    (have hz9 := bnd_eq h; clear h; obtain ⟨l, h2, h⟩ := hz9)
    cases h
    cases asInt_eq h1; cases asInt_eq h2; obtain ⟨t, rfl⟩ := hx; obtain ⟨u, rfl⟩ := hy
    exact le_int (ret.now R rfl)
  | GtE =>
    (have hz9 := bnd_eq h; clear h; obtain ⟨k, h1, h⟩ := hz9)
    (have hz9 := bnd_eq h; clear h; obtain ⟨l, h2, h⟩ := hz9)
    cases h
    cases asInt_eq h1; cases asInt_eq h2; obtain ⟨t, rfl⟩ := hx; obtain ⟨u, rfl⟩ := hy
    exact ge_int (ret.now R rfl)
  | In =>
    cases a with
    | str a => cases b with
      | tup vs =>
        (have hz9 := bnd_eq h; clear h; obtain ⟨ys, h1, h⟩ := hz9)
        cases h
        obtain ⟨t, rfl⟩ := hx
        obtain ⟨b, xs, n, rfl, f2, f3⟩ := hy
        exact in_tuple_strs (ys := ys) ⟨_, (R.N _ (mem_im f2)).1, rfl, n, rfl⟩ (strs_ok h1 (isVs_all f3)) (ret.now R (congrArg Value.bool (anyStr_eq _ _).symm))
      | _ => cases h
    | _ => cases h
  | NotIn =>
    (have hz9 := bnd_eq h; clear h; obtain ⟨k, h1, h⟩ := hz9)
    (have hz9 := bnd_eq h; clear h; obtain ⟨q, h2, h⟩ := hz9)
    (have hz9 := bnd_eq h; clear h; obtain ⟨ys, h3, h⟩ := hz9)
    cases h
    cases asStr_eq h1
    obtain ⟨t, rfl⟩ := hx
    obtain ⟨b, ys, n2, _, _, _, rfl, g2, g3, g4⟩ := list_eq h2 hy R
    exact notin_list_strs g4 (strs_ok h3 g3) (ret.now R (congrArg (fun z => Value.bool !z) (anyStr_eq _ _).symm))
  | IsNot =>
    cases a with
    | none => cases b with
      | none => cases h; cases hx; cases hy; exact isnot_none_none (ret.now R rfl)
      | _ => cases h
    | _ => cases h
  | _ => cases h
end
end Mine
end
section
open PySem PySem.W PyProof.Rows
namespace Mine
theorem one_eq {α : Type} : ∀ {l : List α} {q : α}, one l = some q → l = [q]
  | [_], _, h => by cases h; rfl
  | [], _, h => nomatch h
  | _ :: _ :: _, _, h => nomatch h
section
variable {prog : Program} {w : World} {ρ : Nat → Nat} {p : Program} {loose : List Str} {P : SP} {c : Cx} {Γ : SG} {env : Env} {as as1 as2 : AS} {σ σ' σ1 : SS} {r : RC} {s : Shared} {m : Str → Option Value} {kn : List (Addr × Obj)}
theorem tupK_ok {K : Frag} {a : Addr} {xs : List Value} (h : tupK K a = some xs) : ∃ d its n sl, K.lookup a = some ⟨.type "tuple", d, .seq its n, sl⟩ ∧ xs = its.toList := by
  unfold tupK at h
  split at h
  · rename_i c d its n sl q
    (have hz9 := chk_eq h; clear h; obtain ⟨e, h⟩ := hz9)
    cases h
    cases of_decide_eq_true e
    exact ⟨_, _, _, _, q, rfl⟩
  · cases h
theorem tupV {vs : List SV} {x : Value} (hx : IsV w ρ as (.tup vs) x) (R : Rep prog w ρ c s.heap σ as m kn) : ∃ a xs n, x = .ref a ∧ (a, tupO xs.toArray n) ∈ as.im ∧ All2 (IsV w ρ as) vs xs ∧ IsTup s.heap a xs.toArray := by
  obtain ⟨a, xs, n, rfl, f2, f3⟩ := hx
  exact ⟨a, xs, n, rfl, f2, isVs_all f3, _, (R.N _ (mem_im f2)).1, rfl, n, rfl⟩
theorem callBI_ok (H : SPOk prog w ρ p loose P) {d : Nat} {b : BI} {u v : SV} {x : Value} (h : callBI P b u σ = some (v, σ')) (hx : IsV w ρ as u x) (C : CxOk P.K p loose c d) : Tri prog w ρ c as σ (call b.v [x]) σ' fun as' z => IsV w ρ as' v z := by
  intro s m kn Q R ret
  cases b with
  | len =>
    have lst : (bnd (σ.list u) fun q => chk (ble1000 q.2.length) (some (SV.int (q.2.length : Nat), σ))) = some (v, σ') → wpAny (model prog w) c.A (call BI.len.v [x]) Q NoE s := fun h => by
      (have hz9 := bnd_eq h; clear h; obtain ⟨q, h1, h⟩ := hz9)
      (have hz9 := chk_eq h; clear h; obtain ⟨h2, h⟩ := hz9)
      cases h
      obtain ⟨a, xs, n, _, _, _, rfl, _, f3, f4⟩ := list_eq h1 hx R
      exact kun_lenL f4 (k := (q.2.length : Nat)) (by rw [List.size_toArray, f3.len]) (by have := ble_ok h2; omega) (ret.now R ⟨_, rfl⟩)
    cases u with
    | tup vs =>
      (have hz9 := chk_eq h; clear h; obtain ⟨h2, h⟩ := hz9)
      cases h
      obtain ⟨a, xs, n, rfl, _, f3, f4⟩ := tupV hx R
      exact kun_lenT f4 (k := (vs.length : Nat)) (by rw [List.size_toArray, f3.len]) (by have := ble_ok h2; omega) (ret.now R ⟨_, rfl⟩)
    | _ => exact lst h
  | list =>
    have lst : (bnd (σ.list u) fun q => chk (ble1000 q.2.length) (some (σ.nxt, σ.push (.list q.2)))) = some (v, σ') → wpAny (model prog w) c.A (call BI.list.v [x]) Q NoE s := fun h => by
      (have hz9 := bnd_eq h; clear h; obtain ⟨q, h1, h⟩ := hz9)
      (have hz9 := chk_eq h; clear h; obtain ⟨h2, h⟩ := hz9)
      cases h
      obtain ⟨a, xs, n, _, _, _, rfl, f2, f3, f4⟩ := list_eq h1 hx R
      exact kup_listOf (zs := xs) R.F R.N (mem_kn f2) rfl (fun D k h' F' N' lt => ret.lst R F' N' lt f3) (size_ok (by show xs.length ≤ 1000; rw [← f3.len]; exact ble_ok h2))
    cases u with
    | tup vs =>
      (have hz9 := chk_eq h; clear h; obtain ⟨h2, h⟩ := hz9)
      cases h
      obtain ⟨a, xs, n, rfl, _, f3, f4⟩ := tupV hx R
      exact list_copyKT R.F R.N f4 (fun D k h' F' N' lt => ret.lst R F' N' lt f3) (size_ok (by rw [List.size_toArray, ← f3.len]; exact ble_ok h2))
    | fix u =>
      cases u with
      | ref a =>
        (have hz9 := bnd_eq h; clear h; obtain ⟨us, h1, h⟩ := hz9)
        (have hz9 := chk_eq h; clear h; obtain ⟨h2, h⟩ := hz9)
        cases h
        cases hx
        obtain ⟨dd, its, n, sl, e1, rfl⟩ := tupK_ok h1
        exact list_copyKT R.F R.N (topTup_of C.X R.F e1) (fun D k h' F' N' lt => ret.lst (xs := its.toList) R F' N' lt (All2.mapOf (fun _ => IsV.ofV) _)) (size_ok (by rw [← Array.length_toList]; exact ble_ok h2))
      | _ => exact lst h
    | _ => exact lst h
  | tuple =>
    (have hz9 := bnd_eq h; clear h; obtain ⟨q, h1, h⟩ := hz9)
    (have hz9 := chk_eq h; clear h; obtain ⟨h2, h⟩ := hz9)
    cases h
    obtain ⟨a, xs, n, _, _, _, rfl, f2, f3, f4⟩ := list_eq h1 hx R
    exact kde_tupleOf (zs := xs) R.F R.N f4 (by rw [List.size_toArray, ← f3.len]; have := ble_ok h2; omega) rfl (fun D h' F' N' lt => ret.tup R F' N' lt f3)
  | range => cases u <;> cases h
  | set =>
    (have hz9 := bnd_eq h; clear h; obtain ⟨q, h1, h⟩ := hz9)
    (have hz9 := bnd_eq h; clear h; obtain ⟨y, h2, h⟩ := hz9)
    (have hz9 := bnd_eq h; clear h; obtain ⟨k, h3, h⟩ := hz9)
    (have hz9 := chk_eq h; clear h; obtain ⟨h4, h⟩ := hz9)
    cases h
    cases of_decide_eq_true h4
    cases asInt_eq h3
    obtain ⟨a, xs, n, _, _, _, rfl, f2, f3, f4⟩ := list_eq h1 hx R
    rw [one_eq h2] at f3
    match xs, f3, f2 with
    | [_], ⟨⟨t, rfl⟩, _⟩, f2 =>
    refine set1_N (k := 4) C.hh R.F R.N (mem_kn f2) rfl (by decide) fun h' c' o' tk F' N' hM lt => ?_
    refine ret h' tk (as.fix [(c', o')]) kn _ (Sub.fix _ _) (R.grow1 F' N' lt) ⟨c', o', rfl, List.mem_cons_self, ?_⟩
    show IsM (byT w) (ρ 100 ||| 0) o'
    rw [H.four]; exact hM
theorem atInts_ok {ns : List Int} : ∀ {hs : List (List Int × SV)} {ys : List (List Int × Addr × Value)}, All2 (KeyOk w ρ as) hs ys →
    (∀ q, atInts ns hs = some q → ∃ y, atKey ys ns = some y ∧ IsV w ρ as q y.2) ∧ (atInts ns hs = none → atKey ys ns = none)
  | [], [], _ => ⟨fun _ h => (nomatch h), fun _ => rfl⟩
  | a :: hs, b :: ys, h => by
    obtain ⟨ih1, ih2⟩ := atInts_ok h.2
    obtain ⟨h1, h2, h3⟩ := h.1
    show (∀ q, (bif intsEq ns a.1 then some a.2 else atInts ns hs) = some q → _) ∧ ((bif intsEq ns a.1 then some a.2 else atInts ns hs) = none → _)
    unfold atKey
    rw [List.find?_cons]
    cases q : intsEq ns a.1 with
    | true =>
      rw [show decide (b.1 = ns) = true from decide_eq_true (h1.trans (intsEq_iff.mp q).symm)]
      exact ⟨fun q hq => by cases hq; exact ⟨_, rfl, h3⟩, fun hq => (nomatch hq)⟩
    | false =>
      rw [show decide (b.1 = ns) = false from decide_eq_false fun e => by rw [intsEq_iff.mpr (e.symm.trans h1)] at q; cases q]
      exact ⟨ih1, ih2⟩
theorem keys_ok (hs : ∀ q ∈ as.im, q ∈ led c as kn) : ∀ {hs : List (List Int × SV)} {ys : List (List Int × Addr × Value)}, All2 (KeyOk w ρ as) hs ys → KeysIn prog w (led c as kn) ys
  | [], [], _ => fun _ h => nomatch h
  | a :: us, b :: ys, h => fun x hx => by
    rcases List.mem_cons.mp hx with rfl | hx
    · obtain ⟨h1, ⟨xs, n, h2, h3⟩, _⟩ := h.1
      exact ⟨_, hs _ h2, by rw [h1]; exact ⟨rfl, xs.toArray, _, rfl, items_key h3⟩⟩
    · exact keys_ok hs h.2 x hx
theorem idx_ok {k : Str} : ∀ {ys : List Str} {j : Nat}, idxStr k ys = some j → ys[j]? = some k ∧ (ys.take j).any (· == k) = false
  | y :: r, j, h => by
    replace h : (bif strEq k y then some 0 else bnd (idxStr k r) fun i => some (i + 1)) = some j := h
    cases q : strEq k y with
    | true => rw [q] at h; cases h; cases strEq_iff.mp q; exact ⟨rfl, rfl⟩
    | false =>
      rw [q] at h
      (have hz9 := bnd_eq h; clear h; obtain ⟨i, h1, h⟩ := hz9)
      cases h
      obtain ⟨e1, e2⟩ := idx_ok h1
      exact ⟨by rw [List.getElem?_cons_succ]; exact e1, by rw [List.take_succ_cons, List.any_cons, e2, Bool.or_false]; exact beq_eq_false_iff_ne.mpr (Ne.symm (strEq_false q))⟩
theorem callBM_ok {d : Nat} {b : BM} {i : Nat} {o : SO} {vs : List SV} {v : SV} {a : Addr} {xs : List Value} (h : callBM b i o vs σ = some (v, σ')) (ho : nth σ.os i = some o) (ea : nth as.ad i = some a) (hx : All2 (IsV w ρ as) vs xs) (C : CxOk P.K p loose c d) :
    Tri prog w ρ c as σ (call (.builtin b.id) (.ref a :: xs)) σ' fun as' z => IsV w ρ as' v z := by
  intro s m kn Q R ret
  cases b with
  | append =>
    (have hz9 := bnd_eq h; clear h; obtain ⟨us, h1, h⟩ := hz9)
    (have hz9 := bnd_eq h; clear h; obtain ⟨x, h2, h⟩ := hz9)
    (have hz9 := chk_eq h; clear h; obtain ⟨h3, h⟩ := hz9)
    cases h; cases oList_eq h1; cases one_eq h2
    match xs, hx with
    | [x2], ⟨hx2, _⟩ =>
    obtain ⟨a', ob, f1, f2, ⟨ys, n, rfl, f3⟩, G, _, U⟩ := R.upd ho (by nofun)
    rw [ea] at f1; cases f1
    obtain ⟨u1, u2⟩ := U (W.listOf ((List.toArray ys).push x2) (n + 1)) (.list (us ++ [x]))
    exact append_K R.F R.N u1 (fun h' F' N' => ret h' _ as _ _ (Sub.refl _) (u2 ⟨ys ++ [x2], n + 1, by rw [List.push_toArray], f3.app (l' := [x]) (m' := [x2]) ⟨hx2, trivial⟩⟩ h' F' N') rfl) (size_ok (by rw [List.size_toArray, ← f3.len]; exact ble_ok h3))
  | extend =>
    (have hz9 := bnd_eq h; clear h; obtain ⟨us, h1, h⟩ := hz9)
    (have hz9 := bnd_eq h; clear h; obtain ⟨x, h2, h⟩ := hz9)
    (have hz9 := bnd_eq h; clear h; obtain ⟨q, h4, h⟩ := hz9)
    (have hz9 := chk_eq h; clear h; obtain ⟨h3, h⟩ := hz9)
    cases h; cases oList_eq h1; cases one_eq h2
    match xs, hx with
    | [x2], ⟨hx2, _⟩ =>
    obtain ⟨b, zs, n2, _, _, _, rfl, g2, g3, _⟩ := list_eq h4 hx2 R
    obtain ⟨a', ob, f1, f2, ⟨ys, n, rfl, f3⟩, G, _, U⟩ := R.upd ho (by nofun)
    rw [ea] at f1; cases f1
    have hl := ble_ok (andB h3).2
    rw [f3.len, g3.len] at hl
    have hne : zs.length ≠ 0 := fun e => by
      rw [List.length_eq_zero_iff.mp (g3.len.trans e)] at h3; cases (andB h3).1
    obtain ⟨u1, u2⟩ := U (W.listOf (List.toArray (ys ++ zs)) (n + 1)) (.list (us ++ q.2))
    refine kl_extend (l := ys ++ zs) R.F R.N (mem_kn g2) rfl hne u1 ?_ (size_ok (Nat.le_trans (Nat.le_add_right ys.length zs.length) hl)) (by rw [List.size_toArray, List.size_toArray]; exact Nat.le_succ_of_le (size_ok hl)) fun h' F' N' => ret h' _ as _ _ (Sub.refl _) (u2 ⟨_, _, rfl, f3.app g3⟩ h' F' N') rfl
    rw [List.size_toArray, List.size_toArray, Bool.and_eq_true, not_and, Bool.not_eq_true]
    intro _
    unfold Builtin.List.listTooLong
    simp
    have := size_ok hl
    first | omega | (rw [sizeLine_eq] at this; omega)
  | index =>
    (have hz9 := bnd_eq h; clear h; obtain ⟨us, h1, h⟩ := hz9)
    (have hz9 := bnd_eq h; clear h; obtain ⟨x, h2, h⟩ := hz9)
    (have hz9 := bnd_eq h; clear h; obtain ⟨k, h4, h⟩ := hz9)
    (have hz9 := bnd_eq h; clear h; obtain ⟨ys, h5, h⟩ := hz9)
    (have hz9 := bnd_eq h; clear h; obtain ⟨j, h6, h⟩ := hz9)
    (have hz9 := chk_eq h; clear h; obtain ⟨h3, h⟩ := hz9)
    cases h; cases oList_eq h1; cases one_eq h2; cases asStr_eq h4
    match xs, hx with
    | [_], ⟨⟨t, rfl⟩, _⟩ =>
    obtain ⟨a', ob, f1, f2, zs, n, rfl, f3⟩ := R.S.ok i _ ho (by nofun)
    rw [ea] at f1; cases f1
    obtain ⟨i1, i2⟩ := idx_ok h6
    exact index_strs j ⟨_, (R.N _ (mem_kn f2)).1, rfl, n, rfl⟩ (strs_ok h5 f3) i1 i2 (ble_ok h3) (ret.now R ⟨_, rfl⟩)
  | get =>
    (have hz9 := bnd_eq h; clear h; obtain ⟨hs, h1, h⟩ := hz9)
    (have hz9 := bn2_eq h; clear h; obtain ⟨k, x, h2, h⟩ := hz9)
    (have hz9 := bnd_eq h; clear h; obtain ⟨ks, h3, h⟩ := hz9)
    (have hz9 := bnd_eq h; clear h; obtain ⟨ns, h4, h⟩ := hz9)
    cases oHomes_eq h1; cases two_eq h2; cases asTup_eq h3
    match xs, hx with
    | [k2, x2], ⟨hk, hx2, _⟩ =>
    obtain ⟨b, zs, n, rfl, g2, g3, _⟩ := tupV hk R
    obtain ⟨a', ob, f1, f2, lo, ys, f3, f4⟩ := R.S.ok i _ ho (by nofun)
    rw [ea] at f1; cases f1
    obtain ⟨A1, A2⟩ := atInts_ok (ns := ns) f4
    refine homes_get (ks := ns) (by have := C.hu; omega) lo R.N f3 (mem_kn f2) (keys_ok (fun _ => mem_im) f4) (mem_im g2) ⟨rfl, zs.toArray, _, rfl, items_key (ints_ok h4 g3)⟩ ?_
    cases q : atInts ns hs with
    | some w' => rw [q] at h; cases h; obtain ⟨y, e3, e4⟩ := A1 _ q; rw [e3]; exact ret.now R e4
    | none => rw [q] at h; cases h; rw [A2 q]; exact ret.now R hx2
  | setd =>
    (have hz9 := bnd_eq h; clear h; obtain ⟨hs, h1, h⟩ := hz9)
    (have hz9 := bn2_eq h; clear h; obtain ⟨k, x, h2, h⟩ := hz9)
    (have hz9 := bnd_eq h; clear h; obtain ⟨ks, h3, h⟩ := hz9)
    (have hz9 := bnd_eq h; clear h; obtain ⟨ns, h4, h⟩ := hz9)
    (have hz9 := chk_eq h; clear h; obtain ⟨h5, h⟩ := hz9)
    cases oHomes_eq h1; cases two_eq h2; cases asTup_eq h3
    match xs, hx with
    | [k2, x2], ⟨hk, hx2, _⟩ =>
    obtain ⟨b, zs, n, rfl, g2, g3, _⟩ := tupV hk R
    obtain ⟨a', ob, f1, f2, ⟨lo, ys, f3, f4⟩, G, UF, U⟩ := R.upd ho (by nofun)
    rw [ea] at f1; cases f1
    obtain ⟨A1, A2⟩ := atInts_ok (ns := ns) f4
    refine homes_default (ks := ns) (by have := C.hu; omega) lo R.F R.N UF f3 (keys_ok (fun _ => mem_im) f4) (mem_im g2) ⟨rfl, zs.toArray, _, rfl, items_key (ints_ok h4 g3)⟩ (by rw [← f4.len]; exact Nat.le_trans (Nat.le_of_ble_eq_true h5) (by decide)) (fun y hy => ?_) fun hn h' o' F' N' Ho => ?_
    · cases q : atInts ns hs with
      | none => rw [A2 q] at hy; cases hy
      | some w' => rw [q] at h; cases h; obtain ⟨y', e3, e4⟩ := A1 _ q; rw [hy] at e3; cases e3; exact ret.now R e4
    · cases q : atInts ns hs with
      | some w' => obtain ⟨y', e3, e4⟩ := A1 _ q; rw [hn] at e3; cases e3
      | none => rw [q] at h; cases h; exact ret h' _ as _ _ (Sub.refl _) ((U o' (.homes (hs ++ [(ns, v)]))).2 ⟨lo, _, Ho, f4.app (l' := [(ns, v)]) (m' := [(ns, b, x2)]) ⟨⟨rfl, ⟨zs, n, g2, ints_ok h4 g3⟩, hx2⟩, trivial⟩⟩ h' F' N') hx2
end
end Mine
end
section
open PySem PySem.W PyProof.Rows
namespace Mine
noncomputable def ascC (n : Nat) : List (Str × NameKind) → List (Str × Addr)
  | [] => []
  | p :: r => bif isCell (some p.2) then (p.1, n) :: ascC (n + 1) r else ascC n r
theorem cellsFrom_asc : ∀ (l : List (Str × NameKind)) (n : Nat) (acc : List (Str × Addr)), cellsFrom n l acc = (ascC n l).reverse ++ acc
  | [], n, acc => rfl
  | (x, k) :: r, n, acc => by
    have e : cellsFrom n ((x, k) :: r) acc = bif isCell (some k) then cellsFrom (n + 1) r ((x, n) :: acc) else cellsFrom n r acc := by cases k <;> rfl
    have e2 : ascC n ((x, k) :: r) = bif isCell (some k) then (x, n) :: ascC (n + 1) r else ascC n r := rfl
    rw [e, e2]
    cases isCell (some k) with
    | true => show cellsFrom (n + 1) r ((x, n) :: acc) = ((x, n) :: ascC (n + 1) r).reverse ++ acc; rw [cellsFrom_asc r (n + 1), List.reverse_cons, List.append_assoc]; rfl
    | false => exact cellsFrom_asc r n acc
theorem asc_all : ∀ (l : List (Str × NameKind)) (n : Nat), (ascC n l).map (·.1) = cellNames l ∧ (∀ q ∈ ascC n l, n ≤ q.2) ∧ ((ascC n l).map (·.2)).Nodup ∧ ∀ j x, nth (cellNames l) j = some x → nth (ascC n l) j = some (x, n + j)
  | [], n => ⟨rfl, fun _ h => (nomatch h), List.nodup_nil, fun _ _ h => (nomatch h)⟩
  | p :: r, n => by
    have e1 : ascC n (p :: r) = bif isCell (some p.2) then (p.1, n) :: ascC (n + 1) r else ascC n r := rfl
    have e2 : cellNames (p :: r) = bif isCell (some p.2) then p.1 :: cellNames r else cellNames r := rfl
    rw [e1, e2]
    cases isCell (some p.2) with
    | false => exact asc_all r n
    | true =>
      obtain ⟨i1, i2, i3, i4⟩ := asc_all r (n + 1)
      refine ⟨congrArg (p.1 :: ·) i1, fun q hq => ?_, List.nodup_cons.mpr ⟨fun h => ?_, i3⟩, fun j x h => ?_⟩
      · rcases List.mem_cons.mp hq with rfl | hq
        · exact Nat.le_refl _
        · exact Nat.le_of_succ_le (i2 q hq)
      · obtain ⟨q, hq, e⟩ := List.mem_map.mp h
        have := i2 q hq
        rw [show q.2 = n from e] at this
        exact Nat.lt_irrefl n this
      · cases j with
        | zero => cases h; rfl
        | succ j => rw [show n + (j + 1) = n + 1 + j by omega]; exact i4 j x h
theorem nodupS_ok : ∀ {l : List Str}, nodupS l = true → l.Nodup
  | [], _ => List.nodup_nil
  | x :: r, h => by
    obtain ⟨h1, h2⟩ := andB h
    refine List.nodup_cons.mpr ⟨fun hm => ?_, nodupS_ok h2⟩
    have h1 := notB h1
    rw [anyStr_eq] at h1
    exact absurd (beq_self_eq_true x) (List.any_eq_false.mp h1 x hm)
theorem numbered_ok : ∀ {l : List Str} {n i : Nat} {x : Str}, lookS x (numbered n l) = some i → ∃ j, i = n + j ∧ nth l j = some x
  | y :: l, n, i, x, h => by
    replace h : (bif strEq x y then some n else lookS x (numbered (n + 1) l)) = some i := h
    cases q : strEq x y with
    | true => rw [q] at h; cases h; exact ⟨0, rfl, congrArg some (strEq_iff.mp q).symm⟩
    | false => rw [q] at h; obtain ⟨j, e1, e2⟩ := numbered_ok h; exact ⟨j + 1, by omega, e2⟩
theorem cellsAre_mem {cm : Str → Option Value} : ∀ {cs : List (Str × Addr)} {cells : List (Addr × Obj)}, CellsAre cm cs cells → cells.map (·.1) = cs.map (·.2) ∧ ∀ q ∈ cs, ∃ o, (q.2, o) ∈ cells ∧ o.data = .cell (cm q.1)
  | _, _, .nil => ⟨rfl, fun _ h => nomatch h⟩
  | _, _, .cons h r => by
    obtain ⟨e, k⟩ := cellsAre_mem r
    refine ⟨by rw [List.map_cons, List.map_cons, e], fun q hq => ?_⟩
    rcases List.mem_cons.mp hq with rfl | hq
    · exact ⟨_, List.mem_cons_self, h⟩
    · obtain ⟨o, h1, h2⟩ := k q hq; exact ⟨o, List.mem_cons_of_mem _ h1, h2⟩
theorem bind_at {B : List (Str × Value) → (Str → Option Value) → Str → Option Value} {x : Str} (g : Str × Value → (Str → Option Value) → (Str → Option Value)) (h0 : ∀ m, B [] m = m) (h1 : ∀ q r m, B (q :: r) m = B r (g q m)) (hg : ∀ q m, g q m x = if x = q.1 then some q.2 else m x) :
    ∀ (binds : List (Str × Value)) (m : Str → Option Value), B binds m x = (binds.reverse.lookup x).or (m x)
  | [], m => by rw [h0]; rfl
  | q :: r, m => by
    rw [h1, bind_at g h0 h1 hg r, hg, List.reverse_cons, List.lookup_append, Option.or_assoc, List.lookup_cons, ← strEq_beq]
    by_cases e : x = q.1
    · rw [strEq_iff.mpr e, if_pos e]; rfl
    · rw [strEq_ne e, if_neg e]; rfl
theorem bindL_at {kindOf : Str → Option NameKind} {x : Str} (hx : kindOf x = some .local) (binds : List (Str × Value)) (m : Str → Option Value) : bindL kindOf binds m x = (binds.reverse.lookup x).or (m x) :=
  bind_at (B := bindL kindOf) (fun q m => if kindOf q.1 = some .local then fun y => if y = q.1 then some q.2 else m y else m) (fun _ => rfl) (fun _ _ _ => rfl) (fun q m => by
    by_cases e : x = q.1
    · rw [if_pos e, if_pos (e ▸ hx)]; exact if_pos e
    · rw [if_neg e]; split
      · exact if_neg e
      · rfl) binds m
theorem bindC_at {kindOf : Str → Option NameKind} {x : Str} (hx : kindOf x ≠ some .local) (binds : List (Str × Value)) (m : Str → Option Value) : bindC kindOf binds m x = (binds.reverse.lookup x).or (m x) :=
  bind_at (B := bindC kindOf) (fun q m => if kindOf q.1 = some .local then m else fun y => if y = q.1 then some q.2 else m y) (fun _ => rfl) (fun _ _ _ => rfl) (fun q m => by
    by_cases e : x = q.1
    · rw [if_pos e, if_neg (e ▸ hx)]; exact if_pos e
    · rw [if_neg e]; split
      · rfl
      · exact if_neg e) binds m
theorem lookS_filter {α : Type} {f : Str → Bool} {x : Str} {v : α} : ∀ {l : List (Str × α)}, lookS x (l.filter fun b => f b.1) = some v → f x = true ∧ lookS x l = some v
  | q :: r, h => by
    rw [List.filter_cons] at h
    show _ ∧ (bif strEq x q.1 then some q.2 else lookS x r) = some v
    cases e : f q.1 with
    | true =>
      rw [e, if_pos rfl] at h
      replace h : (bif strEq x q.1 then some q.2 else lookS x (r.filter fun b => f b.1)) = some v := h
      cases z : strEq x q.1 with
      | true => rw [z] at h; exact ⟨by rw [strEq_iff.mp z]; exact e, h⟩
      | false => rw [z] at h; exact lookS_filter h
    | false =>
      rw [e, if_neg (by decide)] at h
      obtain ⟨h1, h2⟩ := lookS_filter h
      refine ⟨h1, ?_⟩
      cases z : strEq x q.1 with
      | true => rw [strEq_iff.mp z, e] at h1; cases h1
      | false => exact h2
theorem All2.lookN {α β : Type} {R : α → β → Prop} : ∀ {l : List (Str × α)} {m : List (Str × β)} {x : Str}, All2 (fun p q => p.1 = q.1 ∧ R p.2 q.2) l m → lookS x l = none → m.lookup x = none
  | a :: l, b :: m, x, h, e => by
    obtain ⟨⟨h1, h2⟩, h3⟩ := h
    rw [List.lookup_cons, ← strEq_beq, ← h1]
    replace e : (bif strEq x a.1 then some a.2 else lookS x l) = none := e
    cases q : strEq x a.1 with
    | true => rw [q] at e; cases e
    | false => rw [q] at e; exact All2.lookN h3 e
  | [], [], _, _, _ => rfl
theorem nodup_rev {γ : Type} {l : List γ} (h : l.Nodup) : l.reverse.Nodup := (List.reverse_perm l).nodup_iff.mpr h
section
variable {prog : Program} {w : World} {ρ : Nat → Nat} {p : Program} {loose : List Str} {P : SP} {c : Cx} {Γ : SG} {env : Env} {as as1 as2 : AS} {σ σ' σ1 : SS} {r : RC} {s : Shared} {m : Str → Option Value} {kn : List (Addr × Obj)}
theorem evB_ok (H : RcOk prog w ρ P.K p loose r) (C : CxOk P.K p loose c Γ.d) : ∀ {ss : List Stmt} {σ σ' : SS} {f : SF} {as : AS}, evB r Γ ss σ = some (f, σ') → GOk w ρ c Γ env as → TriS prog w ρ c as σ (execs ss env) σ' fun as' x => IsF w ρ as' f x
  | [], σ, σ', f, as, h, G => by
    cases h
    exact fun s m kn Q R ret => wpAny_execs_nil (ret.now R (tk := s.toks) rfl)
  | st :: ss, σ, σ', f, as, h, G => by
    obtain ⟨g, σ1, h1, h2⟩ := bn2_eq h
    clear h
    intro s m kn Q R ret
    refine wpAny_execs_cons (H.s h1 C G s m kn _ R fun h' tk as' m' kn' x S R' hx => ?_)
    cases g with
    | next =>
      cases hx
      exact evB_ok H C h2 (G.mono S) _ m' kn' Q R' (ret.up S)
    | ret v =>
      cases h2
      obtain ⟨y, rfl, hy⟩ := hx
      exact ret h' tk as' m' kn' _ S R' ⟨y, rfl, hy⟩
theorem rep_enter {L' : Addr} {c' : Cx} {mb : Str → Option Value} {cells : List (Addr × Obj)} {cm : Str → Option Value} {names : List (Str × NameKind)} {bs : List (Str × SV)} {cv : Str → Option SV}
    (R : RepS prog w ρ c σ as m kn) (hc : c'.rest = c.rest) (Y : CellsAre cm (cellsFrom (L' + 1) names []) cells) (hlt : ∀ q ∈ led c as kn, q.1 < L') (hcm : ∀ x ∈ cellNames names, (∀ v, cv x = some v → ∃ y, cm x = some y ∧ IsV w ρ as v y) ∧ (cv x = none → cm x = none))
    (hloc : ∀ x v, lookS x bs = some v → ∃ y, mb x = some y ∧ IsV w ρ as v y) :
    RepS prog w ρ c' ⟨bs, σ.os ++ (cellNames names).map fun x => .cell (cv x)⟩ ⟨as.ad ++ (ascC (L' + 1) names).map (·.2), as.im⟩ mb (cells ++ kn) := by
  rw [cellsFrom_asc, List.append_nil] at Y
  obtain ⟨Y1, Y2⟩ := cellsAre_mem Y
  obtain ⟨a1, a2, a3, a4⟩ := asc_all names (L' + 1)
  have ge : ∀ q ∈ cells, L' < q.1 := fun q hq => by
    have h1 : q.1 ∈ cells.map (·.1) := List.mem_map_of_mem hq
    rw [Y1] at h1
    obtain ⟨z, hz, e⟩ := List.mem_map.mp h1
    exact e ▸ Nat.lt_of_succ_le (a2 z (List.mem_reverse.mp hz))
  have S : Sub as ⟨as.ad ++ (ascC (L' + 1) names).map (·.2), as.im⟩ := ⟨⟨_, rfl⟩, fun _ h => h⟩
  have far : ∀ q ∈ cells, ∀ z ∈ led c as kn, z.1 ≠ q.1 := fun q hq z hz e => Nat.lt_irrefl _ (Nat.lt_trans (ge q hq) (Nat.lt_of_le_of_lt (Nat.le_of_eq e.symm) (hlt z hz)))
  have split : ∀ i o, nth (σ.os ++ (cellNames names).map fun x => SO.cell (cv x)) i = some o → nth σ.os i = some o ∨ ∃ j x, i = σ.os.length + j ∧ nth (cellNames names) j = some x ∧ o = .cell (cv x) := by
    intro i o e
    rw [nth_eq] at e
    by_cases hi : i < σ.os.length
    · left; rw [nth_eq]; rwa [List.getElem?_append_left hi] at e
    · right
      have hi : σ.os.length ≤ i := Nat.le_of_not_lt hi
      rw [List.getElem?_append_right hi, List.getElem?_map, Option.map_eq_some_iff] at e
      obtain ⟨x, e1, e2⟩ := e
      exact ⟨i - σ.os.length, x, by omega, by rw [nth_eq]; exact e1, e2.symm⟩
  have at' : ∀ j x, nth (cellNames names) j = some x → nth (as.ad ++ (ascC (L' + 1) names).map (·.2)) (σ.os.length + j) = some (L' + 1 + j) := by
    intro j x e
    have := a4 j x e
    rw [nth_eq] at this ⊢
    rw [← R.len, List.getElem?_append_right (Nat.le_add_right _ _), Nat.add_sub_cancel_left, List.getElem?_map, this]; rfl
  refine ⟨?_, ?_, ?_, ?_, ?_, fun x v e => let ⟨y, e1, e2⟩ := hloc x v e; ⟨y, e1, e2.mono S⟩, by rw [hc]; exact R.ir⟩
  · rw [List.map_append, List.nodup_append]
    refine ⟨by rw [Y1, List.map_reverse]; exact nodup_rev a3, R.nd, fun a ha b hb e => ?_⟩
    obtain ⟨q, hq, rfl⟩ := List.mem_map.mp ha
    obtain ⟨z, hz, rfl⟩ := List.mem_map.mp hb
    exact far q hq z (mem_kn hz) e.symm
  · intro q hq z hz
    rw [hc] at hz
    rcases List.mem_append.mp hq with hq | hq
    · exact far q hq z (List.mem_append_right _ hz)
    · exact R.ap q hq z hz
  · show (as.ad ++ (ascC (L' + 1) names).map (·.2)).length = (σ.os ++ (cellNames names).map fun x => SO.cell (cv x)).length
    have := congrArg List.length a1
    rw [List.length_map] at this
    rw [List.length_append, List.length_append, R.len, List.length_map, List.length_map, this]
  · intro i o e gn
    rcases split i o e with e | ⟨j, x, rfl, e1, rfl⟩
    · obtain ⟨a, ob, f1, f2, f3⟩ := R.ok i o e gn
      exact ⟨a, ob, S.nth f1, List.mem_append_right _ f2, f3.mono S⟩
    · have hm : (x, L' + 1 + j) ∈ (ascC (L' + 1) names).reverse := List.mem_reverse.mpr (by
        have := a4 j x e1
        rw [nth_eq] at this
        exact List.mem_of_getElem? this)
      obtain ⟨o, h1, h2⟩ := Y2 _ hm
      refine ⟨_, o, at' j x e1, List.mem_append_left _ h1, ?_⟩
      obtain ⟨c1, c2⟩ := hcm x (by rw [nth_eq] at e1; exact List.mem_of_getElem? e1)
      cases z : cv x with
      | none => rw [c2 z] at h2; exact h2
      | some v => obtain ⟨y, z1, z2⟩ := c1 v z; rw [z1] at h2; exact ⟨y, h2, z2.mono S⟩
  · have new : ∀ i j x a o, nth σ.os i = some o → o ≠ .gone → nth (cellNames names) j = some x → nth (as.ad ++ (ascC (L' + 1) names).map (·.2)) i = some a → nth (as.ad ++ (ascC (L' + 1) names).map (·.2)) (σ.os.length + j) = some a → False := fun i j x a o ei gi e1 qi qk => by
      obtain ⟨b1, ob, f1, f2, _⟩ := R.ok i o ei gi
      have z1 := S.nth f1; rw [qi] at z1; cases z1
      rw [at' j x e1] at qk
      have h1 : @LT.lt Nat _ a L' := hlt _ (mem_kn f2)
      have h2 : @Eq Nat (L' + 1 + j) a := Option.some.inj qk
      omega
    intro i k a oi ok ei ek gi gk qi qk
    rcases split i oi ei with ei | ⟨j, x, rfl, e1, rfl⟩ <;> rcases split k ok ek with ek | ⟨j2, x2, rfl, e2, rfl⟩
    · obtain ⟨b1, _, f1, _⟩ := R.ok i oi ei gi
      obtain ⟨b2, _, f2, _⟩ := R.ok k ok ek gk
      have z1 := S.nth f1; rw [qi] at z1; cases z1
      have z2 := S.nth f2; rw [qk] at z2; cases z2
      exact R.inj i k _ oi ok ei ek gi gk f1 f2
    · exact (new i j2 x2 a oi ei gi e2 qi qk).elim
    · exact (new k j x a ok ek gk e1 qk qi).elim
    · rw [at' j x e1] at qi
      rw [at' j2 x2 e2] at qk
      have h1 : @Eq Nat (L' + 1 + j) a := Option.some.inj qi
      have h2 : @Eq Nat (L' + 1 + j2) a := Option.some.inj qk
      omega
theorem fnAt_ok {K : Frag} {f : Addr} {fd : FuncData} (h : fnAt K f = some fd) : ∃ oc od osl, K.lookup f = some ⟨oc, od, .func fd, osl⟩ := by
  unfold fnAt at h
  split at h
  · cases h; rename_i q; exact ⟨_, _, _, q⟩
  · cases h
theorem keep_fn {K : Frag} {f : Addr} {fd : FuncData} (h : fnAt K f = some fd) : keepIn K (.ref f) = true := by
  obtain ⟨_, _, _, e⟩ := fnAt_ok h
  show (match K.lookup f with | some ⟨_, _, .func _, _⟩ => true | some ⟨_, _, .cls _, _⟩ => specialIn K (.ref f) "__call__" == some (some (.builtin "type.__call__")) | _ => false) = true
  rw [e]
theorem isLocal_eq {o : Option NameKind} (h : isLocal o = true) : o = some .local := beq_iff_eq.mp h
theorem bind_all2 {K : Frag} {fd : FuncData} {vs : List SV} {xs : List Value} (h : All2 (IsV w ρ as) vs xs) : All2 (fun (q : Str × SV) (y : Str × Value) => q.1 = y.1 ∧ IsV w ρ as q.2 y.2) (bindS K fd vs) (bindV K fd xs) := by
  unfold bindS bindV
  simp only [List.length_map, h.len]
  exact All2.zip _ (h.app ((All2.mapOf (fun _ => IsV.ofV) _).drop _))
theorem callF_ok (H : RcOk prog w ρ P.K p loose r) (HP : SPOk prog w ρ p loose P) {d : Nat} {f : Addr} {vs : List SV} {xs : List Value} {v : SV} (h : callF P r d f vs σ = some (v, σ')) (hx : All2 (IsV w ρ as) vs xs) (C : CxOk P.K p loose c d)
    {A' : Around} (hA : A'.frames = c.A.frames) (hh : A'.handled = none) (hd : A'.depth ≤ c.A.depth + 1) (hu : A'.units ≤ c.A.units + 4) (R : Rep prog w ρ c s.heap σ as m kn) {RR : Result → Shared → Prop}
    (ret : After prog w ρ c as s m σ' (fun as' x => IsV w ρ as' v x) fun x => RR (.ok (.ret x))) : codeAny (model prog w) A' (.call (.ref f) ⟨xs, []⟩) RR s ∧ keepIn P.K (.ref f) = true := by
  cases d with
  | zero => cases h
  | succ d =>
    obtain ⟨fd, h1, h'⟩ := bnd_eq h
    clear h
    refine ⟨?_, keep_fn h1⟩
    (have hz9 := chk_eq h'; clear h'; obtain ⟨h2, h'⟩ := hz9)
    obtain ⟨oc, od, osl, ho⟩ := fnAt_ok h1
    have hb := HP.bind h2 h1 hx.len.symm (s := s) (C.X.keeps R.F.keep)
    have b2 := bind_all2 (K := P.K) (fd := fd) hx
    split at h'
    · rename_i nm qual params body scope gl dV kV doc pm an cdv ct bl
      (have hz9 := chk_eq h'; clear h'; obtain ⟨k0, h'⟩ := hz9)
      (have hz9 := chk_eq h'; clear h'; obtain ⟨k4, h'⟩ := hz9)
      (have hz9 := bn2_eq h'; clear h'; obtain ⟨fl, σ1, k9, h'⟩ := hz9)
      cases h'
      obtain ⟨k0, k3⟩ := andB k0
      obtain ⟨k1, k2⟩ := andB k0
      have e1 := Nat.eq_of_beq_eq_true k1; subst e1
      have e2 := Nat.eq_of_beq_eq_true k2; subst e2
      obtain ⟨k4, k10⟩ := andB k4
      obtain ⟨k4, k8⟩ := andB k4
      obtain ⟨k4, k7⟩ := andB k4
      obtain ⟨k4, k6⟩ := andB k4
      obtain ⟨k4, k5⟩ := andB k4
      have hsk : scope.kind = .function := beq_iff_eq.mp k6
      obtain ⟨A₀, base, outer, mean, mg, mb, B, T, hfr⟩ := C.ex
      have hall : ∀ y ∈ bindV P.K (fnOf nm qual params body scope dV kV doc pm an cdv ct) xs, (scope.names.lookup y.1 == some .local || scope.names.lookup y.1 == some .cell) = true := fun y hy => by
        obtain ⟨q, hq, e, _⟩ := b2.memR hy
        rw [← e, ← lookS_eq]; exact List.all_eq_true.mp k7 q hq
      have nd : ∀ n, ((cellsFrom n scope.names []).map (·.1)).Nodup := fun n => by rw [cellsFrom_asc, List.append_nil, List.map_reverse, (asc_all _ n).1]; exact nodup_rev (nodupS_ok k8)
      obtain ⟨_, _, _, _, _, hfe, hke⟩ := C.fe
      refine enterCE (K := P.K) B R.F C.X R.N T (hA.trans hfr) (by rw [hfe]) (by rw [hfe]; exact hke) ho k3 (by have := C.hd; omega) hb
        (List.all_eq_true.mpr hall) (nd 0) ?_ (notB k4) (notB k5) hsk
      intro g L' h₁ tk cells FG F' N' Y B' X' T' hlt _
      have RS := rep_enter (c' := ⟨A'.deeper (envOfC qual scope L' f cdv), g, L', envOfC qual scope L' f cdv, c.rest⟩) (mb := bindL (envOfC qual scope L' f cdv).kindOf (bindV P.K (fnOf nm qual params body scope dV kV doc pm an cdv ct) xs) fun _ => none)
        (bs := (bindS P.K (fnOf nm qual params body scope dV kV doc pm an cdv ct) vs).reverse.filter fun b => isLocal (lookS b.1 scope.names)) (cv := fun x => lookS x (bindS P.K (fnOf nm qual params body scope dV kV doc pm an cdv ct) vs).reverse) R.S rfl Y hlt (fun x hx => ?_) fun x v e => ?_
      rotate_left
      · have hk : (envOfC qual scope L' f cdv).kindOf x ≠ some .local := fun e => by
          have := List.all_eq_true.mp k10 x hx
          rw [lookS_eq, show scope.names.lookup x = some .local from e] at this; cases this
        rw [bindC_at hk]
        exact ⟨fun v e => by obtain ⟨y, e1, e2⟩ := b2.reverse.look e; exact ⟨y, by rw [e1]; rfl, e2⟩, fun e => by rw [b2.reverse.lookN e]; rfl⟩
      · obtain ⟨e0, e⟩ := lookS_filter (f := fun z => isLocal (lookS z scope.names)) e
        obtain ⟨y, e1, e2⟩ := b2.reverse.look e
        exact ⟨y, by rw [bindL_at (by rw [lookS_eq] at e0; exact isLocal_eq e0), e1]; rfl, e2⟩
      have C' : CxOk P.K p loose ⟨A'.deeper (envOfC qual scope L' f cdv), g, L', envOfC qual scope L' f cdv, c.rest⟩ d :=
        ⟨⟨A', base, c.fenv :: outer, mean, mg, mb, B', T', by show A'.frames.map _ = _; rw [hA, hfr]; rfl⟩, X', ⟨qual, scope, f, cdv, _, rfl, hsk⟩, hh, by show A'.depth + 1 + 2 * d + 4 < _; have := C.hd; omega, by show A'.units + 3 + 8 * d + 100 < _; have := C.hu; omega⟩
      refine wpAny_mono (evB_ok H C' k9 (env := envOfC qual scope L' f cdv) ⟨rfl, hsk, rfl, rfl, fun x i e => ?_, fun _ => rfl, fun _ e => nomatch e⟩ { s with heap := h₁, toks := tk } _ _ (fun fl s' => LeaveK c.h₀ c.L m g RR (match fl with | .ret v => v | _ => .none) s') ⟨F', by unfold led; rw [List.append_assoc]; exact N', RS⟩ fun h' tk' as' m' kn' x S R2 hf => ?_) (fun _ _ q => q) fun _ _ e => e.elim
      · obtain ⟨j, rfl, e1⟩ := numbered_ok e
        have e2 := (asc_all scope.names (L' + 1)).2.2.2 j x e1
        rw [nth_eq] at e2
        refine ⟨L' + 1 + j, ?_, lookup_of_mem_nodup (nd _) ?_⟩
        · rw [nth_eq, ← R.S.len, List.getElem?_append_right (Nat.le_add_right _ _), Nat.add_sub_cancel_left, List.getElem?_map, e2]; rfl
        · show _ ∈ cellsFrom (L' + 1) scope.names []
          rw [cellsFrom_asc, List.append_nil, List.mem_reverse]; exact List.mem_of_getElem? e2
      · refine leaveK_ R2.F R2.N fun F9 N9 => ?_
        have S' : Sub as as' := Sub.trans (b := ⟨as.ad ++ (ascC (L' + 1) scope.names).map (·.2), as.im⟩) ⟨⟨_, rfl⟩, fun _ h => h⟩ S
        have R3 : Rep prog w ρ c h' ⟨σ.loc, σ1.os⟩ as' m kn' := ⟨F9, N9, R2.S.nd, R2.S.ap, R2.S.len, R2.S.ok, R2.S.inj, fun x v e => let ⟨y, e1, e2⟩ := R.S.loc x v e; ⟨y, e1, e2.mono S'⟩, R2.S.ir⟩
        cases fl with
        | next => cases hf; exact ret h' tk' as' kn' _ S' R3 rfl
        | ret v => obtain ⟨y, rfl, hy⟩ := hf; exact ret h' tk' as' kn' _ S' R3 hy
    · cases h'
theorem callR_ok (H : RcOk prog w ρ P.K p loose r) (HP : SPOk prog w ρ p loose P) {d : Nat} {a : Addr} {vs : List SV} {xs : List Value} {v : SV} (h : callR P r d a vs σ = some (v, σ')) (hx : All2 (IsV w ρ as) vs xs) (C : CxOk P.K p loose c d) :
    Tri prog w ρ c as σ (call (.ref a) xs) σ' fun as' x => IsV w ρ as' v x := by
  intro s m kn Q R ret
  unfold callR at h
  cases q : P.mak a with
  | some fI =>
    simp only [q] at h
    (have hz9 := bn2_eq h; clear h; obtain ⟨v1, σ1, h4, h⟩ := hz9)
    cases v1 <;> cases h
    obtain ⟨k1, _, k3, k4⟩ := HP.mak q
    refine call_cls R.F C.X R.N k1 k3 k4 fun x dx h' F' N' l1 l2 => ?_
    have Ra := R.push (o := .dict []) F' (fun z hz => N' z (List.mem_cons_of_mem _ hz)) l1 ⟨[], 0, rfl, Nat.le_refl _, fun _ => ⟨fun _ e => (nomatch e), fun _ => rfl⟩⟩
    have Rb := Ra.push (o := .inst a σ.os.length) F' N' (fun z hz => by
      rcases List.mem_cons.mp hz with rfl | hz
      · exact l2
      · exact Nat.lt_trans (l1 z hz) l2) ⟨dx, (Sub.add _ _).nth (Rep.last R.S dx), rfl⟩
    have hxn := Rep.last Ra.S x
    have S2 : Sub as ((as.add dx).add x) := (Sub.add _ _).trans (Sub.add _ _)
    have el : (σ.push (.dict [])).os.length = σ.os.length + 1 := List.length_append
    rw [el] at hxn
    have eo : ((σ.push (.dict [])).push (.inst a σ.os.length)) = ⟨σ.loc, σ.os ++ [.dict [], .inst a σ.os.length]⟩ := congrArg (SS.mk σ.loc) (List.append_assoc σ.os [_] [_])
    rw [eo] at Rb
    refine (callF_ok H HP (xs := .ref x :: xs) h4 ⟨⟨x, hxn, rfl⟩, hx.up S2⟩ C (A' := c.A.under (.builtin "type.__call__" ⟨.ref a :: xs, []⟩)) rfl C.hh (Nat.le_refl _) (by rw [units_under_make]; omega) (s := { s with heap := h' }) Rb fun h2 tk as' kn' y S R2 hy => ?_).1
    cases hy
    exact ⟨rfl, ret h2 tk as' kn' _ (S2.trans S) R2 ⟨x, S.nth hxn, rfl⟩⟩
  | none =>
    simp only [q] at h
    cases q2 : P.pr a vs σ with
    | some z =>
      simp only [q2] at h
      (have hz9 := chk_eq h; clear h; obtain ⟨q3, h⟩ := hz9)
      cases h
      exact (HP.pr q2).2 C (Nat.le_of_ble_eq_true q3) hx s m kn Q R ret
    | none =>
      simp only [q2] at h
      exact wpAny_call (callF_ok H HP h hx C (A' := c.A) rfl C.hh (Nat.le_succ _) (Nat.le_add_right _ _) R ret).1
theorem callR_keep {d : Nat} {a : Addr} {vs : List SV} {u : SV × SS} (HP : SPOk prog w ρ p loose P) (h : callR P r d a vs σ = some u) : keepIn P.K (.ref a) = true := by
  unfold callR at h
  cases q : P.mak a with
  | some fI => exact (HP.mak q).2.1
  | none =>
    simp only [q] at h
    cases q2 : P.pr a vs σ with
    | some z => exact (HP.pr q2).1
    | none =>
      simp only [q2] at h
      cases d with
      | zero => cases h
      | succ d => obtain ⟨fd, h1, _⟩ := bnd_eq h; exact keep_fn h1
end
end Mine
end
section
open PySem PySem.W PyProof.Rows
namespace Mine
theorem isS_eq {α : Type} {o : Option α} {f : α → Bool} (h : isS o f = true) : ∃ a, o = some a ∧ f a = true := by
  cases o with
  | none => cases h
  | some a => exact ⟨a, rfl, h⟩
section
variable {prog : Program} {w : World} {A : Around} {E : Value → Shared → Prop} {s : Shared} {env : Env} {h₀ : Heap} {target : PySem.Expr} {body : List Stmt} {Q : Flow → Shared → Prop}
theorem seqT {fixed : List (Addr × Obj)} {I : Addr} {n : Nat} {P : Nat → Value → Prop} {St : Nat → Heap → Prop} {m₀ : Str → Option Value} {news : List (Addr × Obj)} (W : Walks prog w A I (I :: fixed.map (·.1)) [I] n P St)
    (hgo : ∀ (i : Nat) (v : Value) (s : Shared) (Q : Unit → Shared → Prop) (E : Value → Shared → Prop), St i s.heap → Q () s → wpAny (model prog w) A (letOwnedTupleGo target (.ref I) v) Q E s)
    (hI : ∀ i h, St i h → ∃ o, h.get? I = some o) (J : Nat → (Str → Option Value) → List (Addr × Obj) → Prop) (hL : ∀ i m led, J i m led → ∀ p ∈ fixed, p ∈ led)
    (F : Fr h₀ env.locals s.heap m₀) (N : News h₀ env.locals s.heap news) (hI0 : h₀.get? I = none) (hLI : env.locals ≠ I) (off : ∀ p ∈ news, p.1 ≠ I) (st : St 0 s.heap) (h0 : J 0 m₀ news)
    (turn : ∀ (i : Nat) v m₁ h tk o led, i < n → P i v → J i m₁ led → (∀ p ∈ led, p.1 ≠ I) → Fr h₀ env.locals h m₁ → News h₀ env.locals h ((I, o) :: led) →
      wpAny (model prog w) A (assign target env v) (fun _ s₃ => wpAny (model prog w) A (execs body env) (TurnJ h₀ env.locals I o (J (i + 1)) { s with heap := h, toks := tk } Q) E s₃) E { s with heap := h, toks := tk })
    (done : ∀ m' led h tk, J n m' led → Fr h₀ env.locals h m' → News h₀ env.locals h led → Q .next { s with heap := h, toks := tk }) : TurnsAt prog w A h₀ env target body Q E (.ref I) s := by
  have KW := KTurns.ofWalks (target := target) W hgo
  have hm := hL 0 m₀ news h0
  refine ⟨I, _, _, n, _, _, _, m₀, news, J, rfl, KW, ?_, by simpa using hI0, by simpa using off, st, F, N, h0, ?_, ?_⟩
  · intro hmem
    rcases List.mem_cons.mp hmem with e | hmem
    · exact hLI e
    · obtain ⟨p, hp, e⟩ := List.mem_map.mp hmem
      exact (N p (hm p hp)).2.1 e
  · intro i v m₁ news₁ hh' tk' own hin hP hJ hoff hown1 hown2 hown3 hst1 F₁ N₁
    obtain ⟨o, ho⟩ := hI _ _ hst1
    have hio : (I, o) ∈ own := hown3 _ (by simp) hI0 o ho
    have hoff' : ∀ p ∈ news₁, p.1 ≠ I := fun p hp => by simpa using hoff p hp
    have hfix := hL i m₁ news₁ hJ
    have hall : ∀ p ∈ own, p = (I, o) ∨ p ∈ fixed := fun p hp => by
      have h2 := hown2 p hp
      obtain ⟨a, b⟩ := p
      rcases List.mem_cons.mp (hown1 _ hp) with e | e
      · left
        have e : a = I := e
        subst e
        have : some b = some o := h2.symm.trans ho
        rw [Option.some.inj this]
      · right
        obtain ⟨q, hq, e⟩ := List.mem_map.mp e
        have e : q.1 = a := e
        have h3 := (N₁ q (List.mem_append_right _ (hfix q hq))).1
        rw [e] at h3
        have h2 : hh'.get? a = some b := h2
        have : b = q.2 := Option.some.inj (h2.symm.trans h3)
        rw [this, ← e]; exact hq
    have N₂ : News h₀ env.locals hh' ((I, o) :: news₁) := fun p hp => by
      rcases List.mem_cons.mp hp with rfl | hp
      · exact N₁ _ (List.mem_append_left _ hio)
      · exact N₁ _ (List.mem_append_right _ hp)
    refine wpAny_mono (turn i v m₁ hh' tk' o news₁ hin hP hJ hoff' F₁ N₂) (fun _ s₃ q => wpAny_mono q (fun f s₂ p => ?_) fun _ _ e => e) fun _ _ e => e
    have fin : (∃ h' tk' m' led, s₂ = { { s with heap := hh', toks := tk' } with heap := h', toks := tk' } ∧ Fr h₀ env.locals h' m' ∧ News h₀ env.locals h' ((I, o) :: led) ∧ (∀ p ∈ led, p.1 ≠ I) ∧ J (i + 1) m' led) →
        LoopStepU h₀ env.locals [I] own (J (i + 1)) { s with heap := hh', toks := tk' } .next s₂ := by
      rintro ⟨h', tk, m', led, e, F', N', ha, hg⟩
      refine ⟨rfl, h', tk, m', led, e, F', fun p hp => ?_, by simpa using ha, hg⟩
      rcases List.mem_append.mp hp with hp | hp
      · rcases hall p hp with rfl | hp
        · exact N' _ List.mem_cons_self
        · exact N' _ (List.mem_cons_of_mem _ (hL _ _ _ hg p hp))
      · exact N' _ (List.mem_cons_of_mem _ hp)
    cases f with
    | ret v => exact .ret p
    | brk => exact .brk p
    | next => exact .next (fin p)
    | cont => exact .cont (fin p)
  · rintro h' tk m' news' F' N' _ hg
    exact done m' news' h' tk hg F' N'
end
section
variable {prog : Program} {w : World} {ρ : Nat → Nat} {p : Program} {loose : List Str} {P : SP} {c : Cx} {Γ : SG} {env : Env} {as as1 as2 : AS} {σ σ' σ1 : SS} {r : RC} {s : Shared} {m : Str → Option Value} {kn : List (Addr × Obj)}
theorem storeS_ok {d : Nat} {x : Str} {v : SV} {y : Value} (h : storeS Γ x v σ = some σ') (hy : IsV w ρ as v y) (C : CxOk P.K p loose c d) (G : GOk w ρ c Γ env as) : TriS prog w ρ c as σ (storeName env x y) σ' fun _ _ => True := by
  intro s m kn Q R ret
  (have hz9 := chk_eq h; clear h; obtain ⟨q0, h⟩ := hz9)
  have hl : env.locals = c.L := by rw [G.own0 (isNone_eq q0)]; exact C.hl
  have hK := G.kindOf x
  cases q : kindS Γ x with
  | none => rw [q] at h; cases h
  | some k =>
    rw [q] at h hK
    cases k with
    | «local» =>
      cases h
      refine wpAny_storeName_local hK (by rw [hl]; exact R.F.ns) (fun h' hn hs => ?_) (by rw [G.kind]; rfl)
      rw [hl] at hn hs
      exact ret h' _ as _ kn () (Sub.refl _) ⟨R.F.set hn hs, R.N.set hs, R.S.store hy⟩ trivial
    | cell =>
      (have hz9 := bnd_eq h; clear h; obtain ⟨i, h1, h⟩ := hz9)
      (have hz9 := bnd_eq h; clear h; obtain ⟨o, h2, h⟩ := hz9)
      (have hz9 := bnd_eq h; clear h; obtain ⟨v0, h3, h⟩ := hz9)
      cases h
      cases oCell_eq h3
      obtain ⟨a, f1, f2⟩ := G.cells _ _ h1
      obtain ⟨a', ob, e1, e2, e3, GG, UF, U⟩ := R.upd h2 (by nofun)
      rw [f1] at e1; cases e1
      have hcell : ∃ u, ob.data = .cell u := by
        cases v0 with
        | none => exact ⟨_, e3⟩
        | some v0 => obtain ⟨y0, e4, _⟩ := e3; exact ⟨_, e4⟩
      obtain ⟨u, e4⟩ := hcell
      obtain ⟨own, rest, hsp, hg, g1, g2⟩ := UF.split
      have hmem := R.N (a, ob) (mem_kn e2)
      refine wpAny_storeName_cell G.kind hK f2 ⟨ob, hmem.1, e4⟩ fun h' hv hs => ?_
      obtain ⟨o', ho', hd'⟩ := hv
      have N := R.N
      rw [hsp] at N
      have N' := N.setAt g1 g2 hs ho'
      rw [← hg o'] at N'
      have F' : Fr c.h₀ c.L h' m := ⟨R.F.ns.sameBut hs (Ne.symm hmem.2.1), fun b ob e => (hs.2 b (fun q => by rw [q, hmem.2.2] at e; cases e)).trans (R.F.keep b ob e), R.F.above⟩
      exact ret h' _ as m _ () (Sub.refl _) ((U o' (.cell (some v))).2 ⟨y, hd', hy⟩ h' F' N') trivial
    | _ => cases h
noncomputable def ViewOk (e : PySem.Expr) : EV → Prop
  | .name x => ∃ p, e = .Name x p
  | .attr o n => ∃ p, e = .Attribute o n p
  | .cmp l ops ms => ∃ p, e = .Compare l ops ms p
  | .cst c => ∃ u p, e = .Constant c u p
  | .other => True
theorem view_ok (e : PySem.Expr) : ViewOk e (view e) := by
  cases e <;> first | exact trivial | exact ⟨_, rfl⟩ | exact ⟨_, _, rfl⟩
theorem asName_eq {e : PySem.Expr} {x : Str} (h : asName e = some x) : ∃ p, e = .Name x p := by
  have k := view_ok e
  unfold asName at h
  generalize view e = v at h k
  cases v <;> cases h
  exact k
theorem vAttr_eq {e : PySem.Expr} {q : PySem.Expr × Str} (h : vAttr (view e) = some q) : ∃ p, e = .Attribute q.1 q.2 p := by
  have k := view_ok e
  generalize view e = v at h k
  cases v <;> cases h
  exact k
theorem vCmp_eq {e : PySem.Expr} {q : PySem.Expr × List CmpOp × List PySem.Expr} (h : vCmp (view e) = some q) : ∃ p, e = .Compare q.1 q.2.1 q.2.2 p := by
  have k := view_ok e
  generalize view e = v at h k
  cases v <;> cases h
  exact k
theorem asCst_eq {e : PySem.Expr} {c : Const} (h : asCst e = some c) : ∃ u p, e = .Constant c u p := by
  have k := view_ok e
  unfold asCst at h
  generalize view e = v at h k
  cases v <;> cases h
  exact k
theorem assignT_ok {d : Nat} {target : PySem.Expr} {v : SV} {y : Value} (h : assignT Γ target v σ = some σ') (hy : IsV w ρ as v y) (C : CxOk P.K p loose c d) (G : GOk w ρ c Γ env as) : TriS prog w ρ c as σ (assign target env y) σ' fun _ _ => True := by
  cases target with
  | Name x xp => exact fun s m kn Q R ret => PyProof.Rows.assign_Name (storeS_ok h hy C G s m kn Q R ret)
  | Tuple es k tp =>
    intro s m kn Q R ret
    (have hz9 := bn2_eq h; clear h; obtain ⟨e1, e2, h1, h⟩ := hz9)
    (have hz9 := bnd_eq h; clear h; obtain ⟨x, h2, h⟩ := hz9)
    (have hz9 := bnd_eq h; clear h; obtain ⟨z, h3, h⟩ := hz9)
    (have hz9 := bnd_eq h; clear h; obtain ⟨vs, h4, h⟩ := hz9)
    (have hz9 := bn2_eq h; clear h; obtain ⟨v1, v2, h5, h⟩ := hz9)
    (have hz9 := bnd_eq h; clear h; obtain ⟨σ1, h6, h⟩ := hz9)
    cases asTup_eq h4
    cases two_eq h1
    cases two_eq h5
    obtain ⟨p1, q1⟩ := asName_eq h2
    obtain ⟨p2, q2⟩ := asName_eq h3
    cases q1; cases q2
    obtain ⟨a, xs, n, rfl, _, f3, f4⟩ := tupV hy R
    match xs, f3 with
    | [x1, x2], ⟨g1, g2, _⟩ =>
    refine unpackN_ R.F R.N f4 C.hh rfl rfl fun h' F' N' => ?_
    refine assignInOrder_cons (PyProof.Rows.assign_Name ?_)
    refine storeS_ok h6 g1 C G { s with heap := h' } m kn _ (R.stay F' N') fun h2 tk2 as2 m2 kn2 _ S2 R2 _ => ?_
    refine assignInOrder_cons (PyProof.Rows.assign_Name ?_)
    refine storeS_ok h (g2.mono S2) C (G.mono S2) { s with heap := h2, toks := tk2 } m2 kn2 _ R2 fun h3 tk3 as3 m3 kn3 _ S3 R3 _ => ?_
    exact assignInOrder_nil (ret h3 tk3 as3 m3 kn3 () (S2.trans S3) R3 trivial)
  | _ => cases h
theorem Rep.off {q : Addr × Obj} {h : Heap} (R : Rep prog w ρ (c.with q) h σ as m kn) (hq : ∀ z ∈ c.rest, z.1 ≠ q.1) : (∀ z ∈ led c as kn, z.1 ≠ q.1) ∧ News c.h₀ c.L h (q :: led c as kn) :=
  ⟨fun z hz => led_cases (P := fun z => z.1 ≠ q.1) hz (fun hz => Ne.symm (R.S.ap z hz q (List.mem_append_right _ List.mem_cons_self))) (fun hz => Ne.symm (R.S.ir z hz q List.mem_cons_self)) (hq z), fun z hz => by
    rcases List.mem_cons.mp hz with rfl | hz
    · exact R.N _ (mem_rest List.mem_cons_self)
    · exact R.N z (led_with hz)⟩
theorem turns_ok (H : RcOk prog w ρ P.K p loose r) (C : CxOk P.K p loose c Γ.d) (G : GOk w ρ c Γ env as) (hown : Γ.own = none) {target : PySem.Expr} {body : List Stmt} {fixed : List (Addr × Obj)} {I : Addr} {n : Nat} {PP : Nat → Value → Prop} {St : Nat → Heap → Prop} {vs : List SV} {f : SF} {σ2 : SS} {Q : Flow → Shared → Prop}
    (W : Walks prog w c.A I (I :: fixed.map (·.1)) [I] n PP St)
    (hgo : ∀ (i : Nat) (v : Value) (s : Shared) (Q : Unit → Shared → Prop) (E : Value → Shared → Prop), St i s.heap → Q () s → wpAny (model prog w) c.A (letOwnedTupleGo target (.ref I) v) Q E s)
    (hI : ∀ i h, St i h → ∃ o, h.get? I = some o) (hfix : ∀ q ∈ fixed, q ∈ as.im ++ c.rest) (hP : ∀ i v, i < n → PP i v → ∃ u, nth vs i = some u ∧ IsV w ρ as u v) (hn : vs.length = n)
    (R : Rep prog w ρ c s.heap σ as m kn) (hI0 : c.h₀.get? I = none) (hLI : c.L ≠ I) (off : ∀ q ∈ led c as kn, q.1 ≠ I) (st : St 0 s.heap) (h : forS r Γ target body vs σ = some (f, σ2))
    (ret : AfterS prog w ρ c as s σ2 (fun as' fl => IsF w ρ as' f fl) Q) : TurnsAt prog w c.A c.h₀ env target body Q NoE (.ref I) s := by
  have hl : env.locals = c.L := by rw [G.own0 hown]; exact C.hl
  refine seqT (fixed := fixed) W hgo hI (fun i m' ld => ∃ kn' σi as', ld = led c as' kn' ∧ RepS prog w ρ c σi as' m' kn' ∧ Sub as as' ∧ forS r Γ target body (vs.drop i) σi = some (f, σ2)) ?_ (by rw [hl]; exact R.F) (by rw [hl]; exact R.N) hI0 (by rw [hl]; exact hLI) off st ⟨kn, σ, as, rfl, R.S, Sub.refl _, h⟩ ?_ ?_
  · rintro i m' _ ⟨kn', σi, as', rfl, _, S, _⟩ q hq
    exact (List.mem_append.mp (hfix q hq)).elim (fun z => mem_im (S.2 q z)) mem_rest
  · rintro i v m₁ hh tk o _ hi hPv ⟨kn', σi, as', rfl, RS, S, hf⟩ hoff F₁ N₁
    rw [hl] at F₁ N₁
    obtain ⟨u, hu, hv⟩ := hP i v hi hPv
    rw [nth_drop hu] at hf
    (have hz9 := bnd_eq hf; clear hf; obtain ⟨σa, h1, hf⟩ := hz9)
    (have hz9 := bn2_eq hf; clear hf; obtain ⟨g, σb, h2, hf⟩ := hz9)
    have R1 : Rep prog w ρ (c.with (I, o)) hh σi as' m₁ kn' := Rep.with ⟨F₁, fun q hq => N₁ q (List.mem_cons_of_mem _ hq), RS⟩ N₁ hoff
    have G1 := (G.mono S).with (I, o)
    refine assignT_ok (P := P) h1 (hv.mono S) (C.with (I, o)) G1 { s with heap := hh, toks := tk } m₁ kn' _ R1 fun h4 tk4 as4 m4 kn4 _ S4 R4 _ => ?_
    refine evB_ok H (C.with (I, o)) h2 (G1.mono S4) { s with heap := h4, toks := tk4 } m4 kn4 _ R4 fun h5 tk5 as5 m5 kn5 fl S5 R5 hfl => ?_
    have SS5 := S.trans (S4.trans S5)
    cases g with
    | next =>
      cases hfl
      obtain ⟨o1, o2⟩ := R5.off fun q hq => hoff q (mem_rest hq)
      exact ⟨h5, tk5, m5, led c as5 kn5, rfl, by rw [hl]; exact R5.F, by rw [hl]; exact o2, o1, kn5, σb, as5, rfl, R5.S.out, SS5, hf⟩
    | ret v5 =>
      cases hf
      obtain ⟨x5, rfl, hx5⟩ := hfl
      exact ret h5 tk5 as5 m5 kn5 _ SS5 R5.out ⟨x5, rfl, hx5⟩
  · rintro m' _ hh tk ⟨kn', σi, as', rfl, RS, S, hf⟩ F₁ N₁
    rw [hl] at F₁ N₁
    rw [List.drop_eq_nil_of_le (Nat.le_of_eq hn)] at hf
    cases hf
    exact ret hh tk as' m' kn' _ S ⟨F₁, N₁, RS⟩ rfl
noncomputable def SrcV (w : World) (ρ : Nat → Nat) (as : AS) (σ : SS) (xv : Value) (h : Heap) : SrcS → Prop
  | .at i vs => vs.length ≤ 1000 ∧ nth σ.os i = some (.list vs) ∧ ∃ a, nth as.ad i = some a ∧ xv = .ref a
  | .tup vs => vs.length ≤ 1000 ∧ IsV w ρ as (.tup vs) xv
  | .rng n => n ≤ 1000 ∧ ∃ r t u v, xv = .ref r ∧ IsRange h r 0 (n : Nat) 1 t u v
theorem notSet_ok {e : PySem.Expr} (h : notSet e = true) (env : Env) : ∀ x, foldedSetIterable e env x = pure x := by
  cases e <;> first | (intro x; rfl) | cases h
theorem isRange_eq {o : Option SV} (h : isRange o = true) : o = some (.bi .range) := by
  obtain ⟨v, e, h⟩ := isS_eq h
  obtain ⟨b, h2, h⟩ := isS_eq h
  have e2 : v = .bi b := by cases v <;> cases h2; rfl
  have e3 : b = .range := by cases b <;> first | rfl | cases h
  rw [e, e2, e3]
theorem srcP_ok (H : RcOk prog w ρ P.K p loose r) (C : CxOk P.K p loose c Γ.d) (G : GOk w ρ c Γ env as) {e : PySem.Expr} {src : SrcS} (h : srcP r Γ e σ = some (src, σ')) :
    ∀ (s : Shared) m kn (Q : Value → Shared → Prop), Rep prog w ρ c s.heap σ as m kn → (∀ h' tk as' kn' x, Sub as as' → Rep prog w ρ c h' σ' as' m kn' → SrcV w ρ as' σ' x h' src → Q x { s with heap := h', toks := tk }) → wpAny (model prog w) c.A (eval e env) Q NoE s := by
  intro s m kn Q R ret
  obtain ⟨v, σ1, h1, h2⟩ := bn2_eq h
  clear h
  refine H.e h1 C G s m kn _ R fun h' tk as' kn' x S R' hx => ?_
  have lst : (bnd (σ1.list v) fun q => chk (ble1000 q.2.length) (some (SrcS.at q.1 q.2, σ1))) = some (src, σ') → Q x { s with heap := h', toks := tk } := fun h => by
    (have hz9 := bnd_eq h; clear h; obtain ⟨q, h3, h⟩ := hz9)
    (have hz9 := chk_eq h; clear h; obtain ⟨h4, h⟩ := hz9)
    cases h
    obtain ⟨a, xs, n, rfl, e1, e2, rfl, _⟩ := list_eq (s := { s with heap := h', toks := tk }) h3 hx R'
    exact ret h' tk as' kn' _ S R' ⟨ble_ok h4, e1, a, e2, rfl⟩
  cases v with
  | tup vs => (have hz9 := chk_eq h2; clear h2; obtain ⟨h4, h2⟩ := hz9); cases h2; exact ret h' tk as' kn' _ S R' ⟨ble_ok h4, hx⟩
  | _ => exact lst h2
theorem srcE_ok (H : RcOk prog w ρ P.K p loose r) (HP : SPOk prog w ρ p loose P) (C : CxOk P.K p loose c Γ.d) (G : GOk w ρ c Γ env as) {e : PySem.Expr} {src : SrcS} (h : srcE P r Γ e σ = some (src, σ')) :
    ∀ (s : Shared) m kn (Q : Value → Shared → Prop), Rep prog w ρ c s.heap σ as m kn → (∀ h' tk as' kn' x, Sub as as' → Rep prog w ρ c h' σ' as' m kn' → SrcV w ρ as' σ' x h' src → Q x { s with heap := h', toks := tk }) → wpAny (model prog w) c.A (eval e env) Q NoE s := by
  cases e with
  | Call f args ks pos => cases f with
    | Name x xp => cases args with
      | nil => exact srcP_ok H C G h
      | cons a l => cases l with
        | cons => exact srcP_ok H C G h
        | nil => cases ks with
          | cons => exact srcP_ok H C G h
          | nil =>
            replace h : (bif notDebug x && isRange (lookN P Γ x σ) then chk (!isStar a) (bn2 (r.e Γ a σ) fun v σ1 => bnd (asInt v) fun k => chk (small k) (some (SrcS.rng k.toNat, σ1))) else srcP r Γ (.Call (.Name x xp) [a] [] pos) σ) = some (src, σ') := h
            cases q : (notDebug x && isRange (lookN P Γ x σ)) with
            | false => rw [q] at h; exact srcP_ok H C G h
            | true =>
              rw [q] at h
              obtain ⟨hd, q⟩ := andB q
              obtain ⟨h0, h'⟩ := chk_eq h
              clear h
              (have hz9 := bn2_eq h'; clear h'; obtain ⟨v, σ1, h1, h'⟩ := hz9)
              (have hz9 := bnd_eq h'; clear h'; obtain ⟨k, h2, h'⟩ := hz9)
              (have hz9 := chk_eq h'; clear h'; obtain ⟨h3, h'⟩ := hz9)
              cases h'
              cases asInt_eq h2
              obtain ⟨k0, k1⟩ := small_ok h3
              intro s m kn Q R ret
              refine Call_ (name_ok HP hd (isRange_eq q) C G s m kn _ R fun h' tk as' kn' fv S R' hf => ?_)
              cases hf
              refine PySem.Pv.callWith_type1 (args_cons ?_ (noStar h0 [] env)) (noStar h0 [] env) rfl
              refine H.e h1 C (G.mono S) { s with heap := h', toks := tk } m kn' _ R' fun h2 tk2 as2 kn2 x2 S2 R2 hx2 => args_nil ?_
              obtain ⟨t, rfl⟩ := hx2
              refine range1_rows R2.F R2.N fun h3 tk3 t1 u1 v1 hR F3 N3 _ => ?_
              refine ret h3 tk3 as2 kn2 _ (S.trans S2) (R2.stay F3 N3) ⟨by omega, _, t1, u1, v1, rfl, ?_⟩
              rw [Int.toNat_of_nonneg k0]; exact hR
    | _ => exact srcP_ok H C G h
  | _ => exact srcP_ok H C G h
theorem nth_ints : ∀ {n k i : Nat}, i < n → nth (intsFrom k n) i = some (.int ((k + i : Nat) : Int))
  | n + 1, k, 0, _ => rfl
  | n + 1, k, i + 1, h => by
    rw [show k + (i + 1) = k + 1 + i by omega]; exact nth_ints (k := k + 1) (Nat.lt_of_succ_lt_succ h)
theorem ints_len : ∀ {n k : Nat}, (intsFrom k n).length = n
  | 0, _ => rfl
  | n + 1, k => congrArg (· + 1) ints_len
theorem Rep.pushed (R : Rep prog w ρ c s.heap σ as m kn) (o : Obj) : Rep prog w ρ c (s.heap.push o) σ as m kn := R.stay (R.F.push o) fun q hq => ⟨Heap.get?_push_of_some _ (R.N q hq).1, (R.N q hq).2⟩
theorem goneB {o : SO} (h : oGone o = true) : o = .gone := by cases o <;> first | rfl | cases h
theorem offI (R : Rep prog w ρ c s.heap σ as m kn) : ∀ q ∈ led c as kn, q.1 ≠ s.heap.objs.size := fun q hq => Nat.ne_of_lt (Heap.lt_size (R.N q hq).1)
theorem loop_ok (H : RcOk prog w ρ P.K p loose r) (C : CxOk P.K p loose c Γ.d) (G : GOk w ρ c Γ env as) (hown : Γ.own = none) {target : PySem.Expr} {body : List Stmt} {src : SrcS} {xv : Value} {f : SF} {σ2 σ3 : SS} {Q : Flow → Shared → Prop}
    (R : Rep prog w ρ c s.heap σ as m kn) (hs : SrcV w ρ as σ xv s.heap src) (hnm : (isName target || !src.isRng) = true) (h : forS r Γ target body src.items (src.hide σ) = some (f, σ2)) (hb : src.back σ2 = some σ3)
    (ret : AfterS prog w ρ c as s σ3 (fun as' fl => IsF w ρ as' f fl) Q) : wpAny (model prog w) c.A (pyIter xv) (fun it s₂ => TurnsAt prog w c.A c.h₀ env target body Q NoE it s₂) NoE s := by
  cases src with
  | «at» i vs =>
    obtain ⟨hz, h1, a, ea, rfl⟩ := hs
    obtain ⟨a', ob, kn', e1, hI, hm, R'⟩ := R.hide h1 (by nofun)
    rw [ea] at e1; cases e1
    (have hz9 := bnd_eq hb; clear hb; obtain ⟨g, b1, hb⟩ := hz9)
    (have hz9 := chk_eq hb; clear hb; obtain ⟨b2, hb⟩ := hz9)
    cases hb
    cases goneB b2
    have hI0 := hI
    obtain ⟨xs, n, rfl, hx⟩ := hI
    have hl : s.heap.IsList a xs.toArray := ⟨_, (R.N _ (mem_kn hm)).1, rfl, n, rfl⟩
    refine wpAny_pyIter_list hl ?_
    refine turns_ok (fixed := [(a, W.listOf xs.toArray n)]) H (C.with _) (G.with _) hown (Walks.list (prog := prog) (w := w) C.hh s.heap.objs.size a (Nat.ne_of_lt (Heap.lt_size (R.N _ (mem_kn hm)).1)) xs.toArray) (fun i v s Q E st q => letGo_listiter st.1 q) (fun i h st => ?_) (fun q hq => ?_) (fun i v hi hv => hx.nthR (by simpa using hv)) (by rw [List.size_toArray]; exact hx.len) (s := { s with heap := s.heap.push _ }) (R'.pushed _) (next_is_new R.F) (Nat.ne_of_lt R.F.ns.lt) (offI R') ⟨⟨_, Heap.get?_push_size _ rfl, rfl, rfl⟩, hl.push _⟩ h
      fun h' tk as' m' kn' fl S R2 hf => ret h' tk as' m' _ fl S ⟨R2.F, fun q hq => ?_, R2.S.back (p := (a, W.listOf xs.toArray n)) b1 (S.nth ea) (hI0.mono S) fun q hq => R.S.ap _ hm q (List.mem_append_right _ hq)⟩ hf
    · obtain ⟨o', e, _⟩ := st.1; exact ⟨o', e⟩
    · rw [List.mem_singleton.mp hq]; exact List.mem_append_right _ List.mem_cons_self
    · rcases List.mem_cons.mp hq with rfl | hq
      · exact R2.N _ (mem_rest List.mem_cons_self)
      · exact R2.N q (led_with hq)
  | tup vs =>
    obtain ⟨hz, hv⟩ := hs
    cases hb
    obtain ⟨a, xs, n, rfl, hm, hx, hl⟩ := tupV hv R
    refine wpAny_pyIter_tuple hl ?_
    refine turns_ok (fixed := [(a, tupO xs.toArray n)]) H C G hown (Walks.tuple (prog := prog) (w := w) C.hh s.heap.objs.size a (Nat.ne_of_lt (Heap.lt_size (R.N _ (mem_im hm)).1)) xs.toArray) (fun i v s Q E st q => letGo_tupleiter st.1 q) (fun i h st => ?_) (fun q hq => ?_) (fun i v hi hv => hx.nthR (by simpa using hv)) (by rw [List.size_toArray]; exact hx.len) (s := { s with heap := s.heap.push _ }) (R.pushed _) (next_is_new R.F) (Nat.ne_of_lt R.F.ns.lt) (offI R) ⟨⟨_, Heap.get?_push_size _ rfl, rfl, rfl⟩, ⟨_, Heap.get?_push_of_some _ (R.N _ (mem_im hm)).1, rfl, n, rfl⟩⟩ h ret
    · obtain ⟨o', e, _⟩ := st.1; exact ⟨o', e⟩
    · rw [List.mem_singleton.mp hq]; exact List.mem_append_left _ hm
  | rng n =>
    obtain ⟨hn, rr, t, u, v, rfl, hr⟩ := hs
    cases hb
    have hnt : isName target = true := by rw [show (SrcS.rng n).isRng = true from rfl] at hnm; simpa using hnm
    refine wpAny_pyIter_range hr (small_one (by omega) (by omega) (by omega) (by omega)) ?_
    refine turns_ok (fixed := []) H C G hown (LCg.range_walks (prog := prog) (w := w) C.hh 0 n) (fun i v s Q E st q => ?_) (fun i h st => ⟨_, st⟩) (fun q hq => (nomatch hq)) (fun i v hi hv => ?_) ints_len (s := { s with heap := s.heap.push _ }) (R.pushed _) (next_is_new R.F) (Nat.ne_of_lt R.F.ns.lt) (offI R) ?_ h ret
    · cases target <;> first | exact wpAny_pure q | cases hnt
    · obtain ⟨t', rfl⟩ := hv
      exact ⟨_, nth_ints hi, t', by rw [Int.zero_add, Nat.zero_add]⟩
    · show (s.heap.push _).get? s.heap.objs.size = some _
      rw [rs0 n]
      simpa using Heap.get?_push_size s.heap (o := { cls := .type "range_iterator", data := .fields #[rawInt 0, rawInt (n : Nat), rawInt 1] }) rfl
end
end Mine
end
section
open PySem PySem.W PyProof.Rows
namespace Mine
section
variable {prog : Program} {w : World} {ρ : Nat → Nat} {p : Program} {loose : List Str} {P : SP} {c : Cx} {Γ : SG} {env : Env} {as as1 as2 : AS} {σ σ' σ1 : SS} {r : RC} {s : Shared} {m : Str → Option Value} {kn : List (Addr × Obj)}
noncomputable def ClRel (as : AS) (acc : List (Str × Nat)) (cl : List (Str × Addr)) : Prop := ∀ y i, lookS y acc = some i → ∃ a, nth as.ad i = some a ∧ cl.lookup y = some a
theorem ClRel.mono {acc : List (Str × Nat)} {cl : List (Str × Addr)} (S : Sub as as1) (h : ClRel as acc cl) : ClRel as1 acc cl := fun y i e => let ⟨a, e1, e2⟩ := h y i e; ⟨a, S.nth e1, e2⟩
theorem clos_ok (G : GOk w ρ c Γ env as) {scope : Scope} {cl' : List (Str × Nat)} (h : reCells Γ scope.names [] = some cl') : ∃ cl, closureFor scope env = pure cl ∧ ClRel as cl' cl := by
  have key : ∀ (l : List (Str × NameKind)) (acc : List (Str × Nat)) (ac : List (Str × Addr)), reCells Γ l acc = some cl' → ClRel as acc ac →
      ∃ cl, (forIn l ac (fun x r => do
        if (x.2 == NameKind.free) = true then do
          let a ← cellOf env x.1
          pure (ForInStep.yield ((x.1, a) :: r))
        else pure (ForInStep.yield r)) : Sem (List (Str × Addr))) = pure cl ∧ ClRel as cl' cl := by
    intro l
    induction l with
    | nil => intro acc ac h1 h2; cases h1; exact ⟨ac, rfl, h2⟩
    | cons q l ih =>
      intro acc ac h1 h2
      replace h1 : (bif isFree q.2 then bnd (lookS q.1 Γ.cells) fun i => reCells Γ l ((q.1, i) :: acc) else reCells Γ l acc) = some cl' := h1
      rw [List.forIn_cons]
      cases z : isFree q.2 with
      | true =>
        rw [z] at h1
        (have hz9 := bnd_eq h1; clear h1; obtain ⟨i, h3, h1⟩ := hz9)
        obtain ⟨a, e1, e2⟩ := G.cells _ _ h3
        obtain ⟨cl, k1, k2⟩ := ih ((q.1, i) :: acc) ((q.1, a) :: ac) h1 fun y j e => by
          rw [List.lookup_cons, ← strEq_beq]
          replace e : (bif strEq y q.1 then some i else lookS y acc) = some j := e
          cases u : strEq y q.1 with
          | true => rw [u] at e; cases e; exact ⟨a, e1, rfl⟩
          | false => rw [u] at e; exact h2 y j e
        refine ⟨cl, ?_, k2⟩
        rw [← k1, if_pos (show (q.2 == NameKind.free) = true from z)]
        unfold cellOf
        rw [e2]
        rfl
      | false =>
        rw [z] at h1
        obtain ⟨cl, k1, k2⟩ := ih _ _ h1 h2
        refine ⟨cl, ?_, k2⟩
        rw [← k1, if_neg (show ¬(q.2 == NameKind.free) = true from fun e => by rw [show isFree q.2 = true from e] at z; cases z)]
        rfl
  obtain ⟨cl, k1, k2⟩ := key scope.names [] [] h fun _ _ e => (nomatch e)
  refine ⟨cl, ?_, k2⟩
  rw [← k1]
  unfold closureFor
  simp only [bind_pure]
theorem reNames_ok (G : GOk w ρ c Γ env as) (scope : Scope) : (relabel scope env).names = reNames Γ scope.names := by
  show scope.names.map _ = scope.names.map _
  refine List.map_congr_left fun q _ => ?_
  obtain ⟨n, k⟩ := q
  have hk : (env.scope.kind == ScopeKind.function) = true := by rw [G.kind]; rfl
  simp only [hk, Bool.and_true, G.kindOf]
  show _ = bif (k == .free) && (kindS Γ n == some .cell) then (n, .cell) else (n, k)
  cases (k == NameKind.free) <;> cases (kindS Γ n == some NameKind.cell) <;> rfl
theorem scopeOk_ok {x : Str} {scope : Scope} (h : scopeOk x scope = true) : (∀ y ∈ scope.names, y.2 ≠ .cell) ∧ scope.kind = .function ∧ (∀ y ∈ scope.names, y.2 = .local → scope.names.lookup y.1 = some .local) ∧ scope.names.lookup x = some .local := by
  obtain ⟨h, h4⟩ := andB h
  obtain ⟨h, h3⟩ := andB h
  obtain ⟨h1, h2⟩ := andB h
  refine ⟨fun y hy e => ?_, beq_iff_eq.mp h2, fun y hy e => ?_, by rw [← lookS_eq]; exact isLocal_eq h4⟩
  · have := List.all_eq_true.mp h1 y hy; rw [e] at this; cases this
  · have := List.all_eq_true.mp h3 y hy; rw [e] at this; rw [← lookS_eq]; exact isLocal_eq this
theorem Rep.turn {I C' D : Addr} {oI oC oD : Obj} {h : Heap} (S : RepS prog w ρ c σ as m kn) (F : Fr c.h₀ c.L h m) (N : News c.h₀ c.L h ((I, oI) :: (C', oC) :: (D, oD) :: led c as kn)) (off : LCg.Off3 I C' D (led c as kn)) (ne : (@Ne Nat I C') ∧ (@Ne Nat I D) ∧ (@Ne Nat C' D)) :
    Rep prog w ρ (((c.with (D, oD)).with (C', oC)).with (I, oI)) h σ as m kn := by
  have offm := off.mem
  have N2 := fun q hq => N q (List.mem_cons_of_mem _ hq)
  have N1 := fun q hq => N2 q (List.mem_cons_of_mem _ hq)
  have R1 := (Rep.mk F (fun q hq => N1 q (List.mem_cons_of_mem _ hq)) S).with N1 fun q hq => (offm q hq).2.2
  have R2 := R1.with (q := (C', oC)) (fun q hq => (List.mem_cons.mp hq).elim (fun e => N2 q (e ▸ List.mem_cons_self)) fun hq => (mem_with hq).elim (fun e => N2 q (e ▸ List.mem_cons_of_mem _ List.mem_cons_self)) fun hq => N2 q (List.mem_cons_of_mem _ (List.mem_cons_of_mem _ hq)))
    fun q hq => (mem_with hq).elim (fun e => e ▸ Ne.symm ne.2.2) fun hq => (offm q hq).2.1
  exact R2.with (q := (I, oI)) (fun q hq => (List.mem_cons.mp hq).elim (fun e => N q (e ▸ List.mem_cons_self)) fun hq => (mem_with hq).elim (fun e => N q (e ▸ List.mem_cons_of_mem _ List.mem_cons_self)) fun hq => (mem_with hq).elim (fun e => N q (e ▸ List.mem_cons_of_mem _ (List.mem_cons_of_mem _ List.mem_cons_self))) fun hq => N q (List.mem_cons_of_mem _ (List.mem_cons_of_mem _ (List.mem_cons_of_mem _ hq))))
    fun q hq => (mem_with hq).elim (fun e => e ▸ Ne.symm ne.1) fun hq => (mem_with hq).elim (fun e => e ▸ Ne.symm ne.2.1) fun hq => (offm q hq).1
theorem CompEnd_of {I C' D : Addr} {oI oC oD : Obj} {s₁ : Shared} {S : List (Addr × Obj) → Prop} {rest : Value → List (Addr × Obj) → Prop} {y : Value} {h : Heap} {tk : Tok} (R : Rep prog w ρ (((c.with (D, oD)).with (C', oC)).with (I, oI)) h σ as m kn) (ne : (@Ne Nat I C') ∧ (@Ne Nat I D) ∧ (@Ne Nat C' D))
    (off : ∀ q ∈ c.rest, q.1 ≠ I ∧ q.1 ≠ C' ∧ q.1 ≠ D) (hS : S (led c as kn)) (hr : rest y (led c as kn)) : LCg.CompEnd c.h₀ c.L m s₁ I oI C' oC D oD S rest y { s₁ with heap := h, toks := tk } := by
  obtain ⟨o1, n1⟩ := R.off (c := (c.with (D, oD)).with (C', oC)) fun q hq => (List.mem_cons.mp hq).elim (fun e => e ▸ Ne.symm ne.1) fun hq => (List.mem_cons.mp hq).elim (fun e => e ▸ Ne.symm ne.2.1) fun hq => (off q hq).1
  obtain ⟨o2, n2⟩ := R.out.off (c := c.with (D, oD)) fun q hq => (List.mem_cons.mp hq).elim (fun e => e ▸ Ne.symm ne.2.2) fun hq => (off q hq).2.1
  obtain ⟨o3, n3⟩ := R.out.out.off (c := c) fun q hq => (off q hq).2.2
  refine ⟨h, tk, led c as kn, rfl, R.F, fun q hq => ?_, LCg.Off3.of fun q hq => ⟨o1 q (led_with (led_with hq)), o2 q (led_with hq), o3 q hq⟩, hS, hr⟩
  rcases List.mem_cons.mp hq with rfl | hq
  · exact n1 _ List.mem_cons_self
  · rcases List.mem_cons.mp hq with rfl | hq
    · exact n2 _ List.mem_cons_self
    · exact n3 _ hq
section
variable {elt ct : PySem.Expr} {x : Str} {scope : Scope} {cl : List (Str × Addr)} {cl' : List (Str × Nat)} {S : List (Addr × Obj) → Prop} {n : Nat} {PP : Nat → Value → Prop} {vs : List SV} {Fin : List Value → List (Addr × Obj) → Prop} {ysF : List SV} {σF : SS}
theorem GOk.turn (G : GOk w ρ c Γ env as) (hcl : ClRel as cl' cl) (hkind : scope.kind = .function) {C' : Addr} {oC : Obj} {m₂ : Str → Option Value} {c' : Cx} {u : SV} {v : Value} (Su : Sub as as1) (hm : (C', oC) ∈ c'.rest) (hns : LCg.NsObj oC m₂) (hm2 : m₂ x = some v) (hv : IsV w ρ as u v) : GOk w ρ c' ⟨reNames Γ scope.names, cl', some (x, u), Γ.d⟩ (compEnvC scope cl C' env) as1 :=
  ⟨reNames_ok G scope, hkind, G.gl, G.bl, hcl.mono Su, fun e => (nomatch e), fun q e => by cases e; exact ⟨oC, m₂, v, hm, hns, hm2, hv.mono Su⟩⟩
theorem compS_cons {Γ' : SG} {v : SV} {l ys : List SV} : compS r Γ' elt [] x (v :: l) ys σ = bn2 (r.e { Γ' with own := some (x, v) } elt σ) fun y σ1 => compS r Γ' elt [] x l (ys ++ [y]) σ1 := rfl
theorem compS_consT {Γ' : SG} {v : SV} {l ys : List SV} : compS r Γ' elt [ct] x (v :: l) ys σ = bn2 (r.t { Γ' with own := some (x, v) } ct σ) fun b σ0 => bif b then bn2 (r.e { Γ' with own := some (x, v) } elt σ0) fun y σ1 => compS r Γ' elt [ct] x l (ys ++ [y]) σ1 else compS r Γ' elt [ct] x l ys σ0 := rfl
theorem comp_rest (H : RcOk prog w ρ P.K p loose r) (C : CxOk P.K p loose c Γ.d) (G : GOk w ρ c Γ env as) (hcl : ClRel as cl' cl) (hkind : scope.kind = .function) (hS : ∀ as' kn', Sub as as' → S (led c as' kn')) (hP : ∀ i v, i < n → PP i v → ∃ u, nth vs i = some u ∧ IsV w ρ as u v) (hn : vs.length = n)
    (fin : ∀ ysv' kn' as', Sub as as' → RepS prog w ρ c σF as' m kn' → All2 (IsV w ρ as') ysF ysv' → Fin ysv' (led c as' kn')) :
    ∀ (k i : Nat) (ys : List SV) (ysv : List Value) (σi : SS) (as' : AS) (kn' : List (Addr × Obj)), i + k = n → Sub as as' → RepS prog w ρ c σi as' m kn' → All2 (IsV w ρ as') ys ysv → compS r ⟨reNames Γ scope.names, cl', none, Γ.d⟩ elt [] x (vs.drop i) ys σi = some (ysF, σF) →
      LCg.CompRest prog w c.A c.h₀ c.L m env elt x scope cl s S PP Fin k i ysv (led c as' kn')
  | 0, i, ys, ysv, σi, as', kn', hi, Su, RS, hy, h => by
    rw [List.drop_eq_nil_of_le (by omega)] at h
    cases h
    exact fin ysv kn' as' Su RS hy
  | k + 1, i, ys, ysv, σi, as', kn', hi, Su, RS, hy, h => by
    refine LCg.CompRest.succ fun v I oI C' oC D m₂ hh tk E' hPv hns hm2 F N off ne => ?_
    obtain ⟨u, hu, hv⟩ := hP i v (by omega) hPv
    rw [nth_drop hu, compS_cons] at h
    obtain ⟨y, σ1, h1, h2⟩ := bn2_eq h
    refine wpAny_mono (H.e h1 (((C.with _).with _).with _) (G.turn hcl hkind Su (List.mem_cons_of_mem _ List.mem_cons_self) hns hm2 hv) { s with heap := hh, toks := tk } m kn' (LCg.CompEnd c.h₀ c.L m { s with heap := hh, toks := tk } I oI C' oC D (LCg.lst ysv) S fun y' news' => LCg.CompRest prog w c.A c.h₀ c.L m env elt x scope cl s S PP Fin k (i + 1) (ysv ++ [y']) news') (Rep.turn RS F N off ne) fun h3 tk3 as3 kn3 yv S3 R3 hyv => ?_) (fun _ _ q => q) fun _ _ e => e.elim
    exact CompEnd_of R3 ne (fun q hq => off.mem q (mem_rest hq)) (hS _ _ (Su.trans S3)) (comp_rest H C G hcl hkind hS hP hn fin k (i + 1) (ys ++ [y]) (ysv ++ [yv]) σ1 as3 kn3 (by omega) (Su.trans S3) R3.S.out.out.out ((hy.up S3).app (l' := [y]) (m' := [yv]) ⟨hyv, trivial⟩) h2)
theorem comp_restT (H : RcOk prog w ρ P.K p loose r) (C : CxOk P.K p loose c Γ.d) (G : GOk w ρ c Γ env as) (hcl : ClRel as cl' cl) (hkind : scope.kind = .function) (hS : ∀ as' kn', Sub as as' → S (led c as' kn')) (hP : ∀ i v, i < n → PP i v → ∃ u, nth vs i = some u ∧ IsV w ρ as u v) (hn : vs.length = n)
    (fin : ∀ ysv' kn' as', Sub as as' → RepS prog w ρ c σF as' m kn' → All2 (IsV w ρ as') ysF ysv' → Fin ysv' (led c as' kn')) :
    ∀ (k i : Nat) (ys : List SV) (ysv : List Value) (σi : SS) (as' : AS) (kn' : List (Addr × Obj)), i + k = n → Sub as as' → RepS prog w ρ c σi as' m kn' → All2 (IsV w ρ as') ys ysv → compS r ⟨reNames Γ scope.names, cl', none, Γ.d⟩ elt [ct] x (vs.drop i) ys σi = some (ysF, σF) →
      LCt.CompRestT prog w c.A c.h₀ c.L m env ct elt x scope cl s S PP Fin k i ysv (led c as' kn')
  | 0, i, ys, ysv, σi, as', kn', hi, Su, RS, hy, h => by
    rw [List.drop_eq_nil_of_le (by omega)] at h
    cases h
    exact fin ysv kn' as' Su RS hy
  | k + 1, i, ys, ysv, σi, as', kn', hi, Su, RS, hy, h => by
    refine LCt.CompRestT.succ fun v I oI C' oC D m₂ hh tk E' hPv hns hm2 F N off ne => ?_
    obtain ⟨u, hu, hv⟩ := hP i v (by omega) hPv
    rw [nth_drop hu, compS_consT] at h
    obtain ⟨b, σ0, h0, h'⟩ := bn2_eq h
    clear h
    refine wpAny_mono (H.t h0 (((C.with _).with _).with _) (G.turn hcl hkind Su (List.mem_cons_of_mem _ List.mem_cons_self) hns hm2 hv) { s with heap := hh, toks := tk } m kn' (fun ok s' => if ok = true then
        wpAny (model prog w) c.A (eval elt (compEnvC scope cl C' env)) (LCg.CompEnd c.h₀ c.L m { s with heap := hh, toks := tk } I oI C' oC D (LCg.lst ysv) S fun y' news' => LCt.CompRestT prog w c.A c.h₀ c.L m env ct elt x scope cl s S PP Fin k (i + 1) (ysv ++ [y']) news') E' s'
        else LCg.CompEnd c.h₀ c.L m { s with heap := hh, toks := tk } I oI C' oC D (LCg.lst ysv) S (fun _ news' => LCt.CompRestT prog w c.A c.h₀ c.L m env ct elt x scope cl s S PP Fin k (i + 1) ysv news') Value.none s') (Rep.turn RS F N off ne) fun h2 tk2 as2 kn2 z S2 R2 hz => ?_) (fun _ _ q => q) fun _ _ e => e.elim
    subst hz
    have So := Su.trans S2
    cases z with
    | false =>
      rw [if_neg (by decide)]
      exact CompEnd_of R2 ne (fun q hq => off.mem q (mem_rest hq)) (hS _ _ So) (comp_restT H C G hcl hkind hS hP hn fin k (i + 1) ys ysv σ0 as2 kn2 (by omega) So R2.S.out.out.out (hy.up S2) h')
    | true =>
      rw [cond_true] at h'
      obtain ⟨y, σ1, h1, h2⟩ := bn2_eq h'
      rw [if_pos rfl]
      refine wpAny_mono (H.e h1 (((C.with _).with _).with _) (G.turn hcl hkind So (List.mem_cons_of_mem _ List.mem_cons_self) hns hm2 hv) _ m kn2 (LCg.CompEnd c.h₀ c.L m { s with heap := hh, toks := tk } I oI C' oC D (LCg.lst ysv) S fun y' news' => LCt.CompRestT prog w c.A c.h₀ c.L m env ct elt x scope cl s S PP Fin k (i + 1) (ysv ++ [y']) news') R2 fun h3 tk3 as3 kn3 yv S3 R3 hyv => ?_) (fun _ _ q => q) fun _ _ e => e.elim
      exact CompEnd_of R3 ne (fun q hq => off.mem q (mem_rest hq)) (hS _ _ (So.trans S3)) (comp_restT H C G hcl hkind hS hP hn fin k (i + 1) (ys ++ [y]) (ysv ++ [yv]) σ1 as3 kn3 (by omega) (So.trans S3) R3.S.out.out.out ((hy.up (S2.trans S3)).app (l' := [y]) (m' := [yv]) ⟨hyv, trivial⟩) h2)
end
end
end Mine
end
section
open PySem PySem.W PyProof.Rows
namespace Mine
section
variable {prog : Program} {w : World} {ρ : Nat → Nat} {p : Program} {loose : List Str} {P : SP} {c : Cx} {Γ : SG} {env : Env} {as as1 as2 : AS} {σ σ' σ1 : SS} {r : RC} {s : Shared} {m : Str → Option Value} {kn : List (Addr × Obj)}
noncomputable def Fin0 (prog : Program) (w : World) (ρ : Nat → Nat) (c : Cx) (as : AS) (m : Str → Option Value) (ysF : List SV) (σ3 : SS) (ysv : List Value) (news : List (Addr × Obj)) : Prop :=
  ∃ as2 kn3, Sub as as2 ∧ All2 (IsV w ρ as2) ysF ysv ∧ (∀ q ∈ led c as2 kn3, q ∈ news) ∧ RepS prog w ρ c σ3 as2 m kn3
section
variable {elt ct : PySem.Expr} {x : Str} {scope : Scope} {cl : List (Str × Addr)} {cl' : List (Str × Nat)} {ysF : List SV} {σF σ3 : SS} {Fin : Shared → List Value → List (Addr × Obj) → Prop} {xv : Value} {vs : List SV} {i n : Nat}
theorem src_list (H : RcOk prog w ρ P.K p loose r) (C : CxOk P.K p loose c Γ.d) (G : GOk w ρ c Γ env as) (hcl : ClRel as cl' cl) (hkind : scope.kind = .function) (R : Rep prog w ρ c s.heap σ as m kn) (hs : SrcV w ρ as σ xv s.heap (.at i vs))
    (hc : compS r ⟨reNames Γ scope.names, cl', none, Γ.d⟩ elt [] x vs [] (σ.set i .gone) = some (ysF, σF)) (hb : SrcS.back (.at i vs) σF = some σ3) (fin : ∀ g ysv news, Fin0 prog w ρ c as m ysF σ3 ysv news → Fin { s with heap := g } ysv news) :
    LCg.CompSrc prog w c.A c.h₀ c.L m env elt x scope cl Fin xv s := by
  obtain ⟨hz, h1, a, ea, rfl⟩ := hs
  obtain ⟨a', ob, kn', e1, hI, hm, R'⟩ := R.hide h1 (by nofun)
  rw [ea] at e1; cases e1
  have hI0 := hI
  obtain ⟨xs, n, rfl, hx⟩ := hI
  (have hz9 := bnd_eq hb; clear hb; obtain ⟨g, b1, hb⟩ := hz9)
  (have hz9 := chk_eq hb; clear hb; obtain ⟨b2, hb⟩ := hz9)
  cases hb
  cases goneB b2
  refine LCg.CompSrc.ledger (its := xs.toArray) (k := n) C.hh R'.F R'.N (mem_rest List.mem_cons_self) (by rw [List.size_toArray, ← hx.len]; exact size_ok hz) fun g => ?_
  refine comp_rest (c := c.with (a, W.listOf xs.toArray n)) H (C.with _) (G.with _) hcl hkind (fun as' kn' _ => .inr ⟨_, mem_rest List.mem_cons_self, rfl, _, rfl⟩) (n := xs.toArray.size) (fun i v hi hv => hx.nthR (by simpa using hv)) (by rw [List.size_toArray]; exact hx.len) (fun ysv' kn2 as2 S2 RS2 hy2 => fin _ _ _ ?_) _ 0 [] [] _ as kn' (Nat.zero_add _) (Sub.refl _) R'.S trivial hc
  refine ⟨as2, _, S2, hy2, fun q hq => ?_, RS2.back (p := (a, W.listOf xs.toArray n)) (o := .list vs) b1 (S2.nth ea) (hI0.mono S2) fun q hq => R.S.ap _ hm q (List.mem_append_right _ hq)⟩
  rcases List.mem_cons.mp hq with rfl | hq
  · exact mem_rest List.mem_cons_self
  · exact led_with hq
theorem src_tup (H : RcOk prog w ρ P.K p loose r) (C : CxOk P.K p loose c Γ.d) (G : GOk w ρ c Γ env as) (hcl : ClRel as cl' cl) (hkind : scope.kind = .function) (R : Rep prog w ρ c s.heap σ as m kn) (hs : SrcV w ρ as σ xv s.heap (.tup vs))
    (hc : compS r ⟨reNames Γ scope.names, cl', none, Γ.d⟩ elt [] x vs [] σ = some (ysF, σF)) (fin : ∀ g ysv news, Fin0 prog w ρ c as m ysF σF ysv news → Fin { s with heap := g } ysv news) :
    SrcTup prog w c.A c.h₀ c.L m env elt x scope cl Fin xv s := by
  obtain ⟨hz, a, xs, n, rfl, hm, hx⟩ := hs
  have hx := isVs_all hx
  refine SrcTup.intro (its := xs.toArray) (k := n) C.hh R.F R.N (mem_im hm) (by rw [List.size_toArray, ← hx.len]; exact size_ok hz) fun g => ?_
  exact comp_rest (S := fun nw => (a, tupO xs.toArray n) ∈ nw) H C G hcl hkind (fun as' kn' Su => mem_im (Su.2 _ hm)) (n := xs.toArray.size) (fun i v hi hv => hx.nthR (by simpa using hv)) (by rw [List.size_toArray]; exact hx.len) (fun ysv' kn2 as2 S2 RS2 hy2 => fin _ _ _ ⟨as2, kn2, S2, hy2, fun q hq => hq, RS2⟩) _ 0 [] [] _ as kn (Nat.zero_add _) (Sub.refl _) R.S trivial hc
theorem rng_at {v : Value} {i : Nat} (hi : i < n) (hv : ∃ t, v = .int (0 + (i : Int)) t) : ∃ u, nth (intsFrom 0 n) i = some u ∧ IsV w ρ as u v := by
  obtain ⟨t', rfl⟩ := hv
  exact ⟨_, nth_ints hi, t', by rw [Int.zero_add, Nat.zero_add]⟩
theorem src_rng (H : RcOk prog w ρ P.K p loose r) (C : CxOk P.K p loose c Γ.d) (G : GOk w ρ c Γ env as) (hcl : ClRel as cl' cl) (hkind : scope.kind = .function) (R : Rep prog w ρ c s.heap σ as m kn) (hs : SrcV w ρ as σ xv s.heap (.rng n))
    (hc : compS r ⟨reNames Γ scope.names, cl', none, Γ.d⟩ elt [] x (intsFrom 0 n) [] σ = some (ysF, σF)) (fin : ∀ g ysv news, Fin0 prog w ρ c as m ysF σF ysv news → Fin { s with heap := g } ysv news) :
    LCg.CompSrc prog w c.A c.h₀ c.L m env elt x scope cl Fin xv s := by
  obtain ⟨hn, rr, t, u, v, rfl, hr⟩ := hs
  refine LCg.CompSrc.range (n := n) C.hh R.F R.N hr (small_one (by omega) (by omega) (by omega) (by omega)) (rs0 n) (size_ok hn) fun g => ?_
  exact comp_rest H C G hcl hkind (fun _ _ _ => trivial) (n := n) (fun i v hi hv => rng_at hi hv) ints_len (fun ysv' kn2 as2 S2 RS2 hy2 => fin _ _ _ ⟨as2, kn2, S2, hy2, fun q hq => hq, RS2⟩) n 0 [] [] σ as kn (Nat.zero_add _) (Sub.refl _) R.S trivial hc
theorem src_rngT (H : RcOk prog w ρ P.K p loose r) (C : CxOk P.K p loose c Γ.d) (G : GOk w ρ c Γ env as) (hcl : ClRel as cl' cl) (hkind : scope.kind = .function) (R : Rep prog w ρ c s.heap σ as m kn) (hs : SrcV w ρ as σ xv s.heap (.rng n))
    (hc : compS r ⟨reNames Γ scope.names, cl', none, Γ.d⟩ elt [ct] x (intsFrom 0 n) [] σ = some (ysF, σF)) (fin : ∀ g ysv news, Fin0 prog w ρ c as m ysF σF ysv news → Fin { s with heap := g } ysv news) :
    LCt.CompSrcT prog w c.A c.h₀ c.L m env ct elt x scope cl Fin xv s := by
  obtain ⟨hn, rr, t, u, v, rfl, hr⟩ := hs
  refine LCt.CompSrcT.range (n := n) C.hh R.F R.N hr (small_one (by omega) (by omega) (by omega) (by omega)) (rs0 n) (size_ok hn) fun g => ?_
  exact comp_restT H C G hcl hkind (fun _ _ _ => trivial) (n := n) (fun i v hi hv => rng_at hi hv) ints_len (fun ysv' kn2 as2 S2 RS2 hy2 => fin _ _ _ ⟨as2, kn2, S2, hy2, fun q hq => hq, RS2⟩) n 0 [] [] σ as kn (Nat.zero_add _) (Sub.refl _) R.S trivial hc
theorem off1_mem {D : Addr} : ∀ {l : List (Addr × Obj)}, LCg.Off1 D l → ∀ q ∈ l, q.1 ≠ D
  | [], _, _, h => nomatch h
  | a :: l, x, q, h => by
    rcases List.mem_cons.mp h with rfl | h
    · exact x.1
    · exact off1_mem x.2 q h
theorem fin_push {kn3 news : List (Addr × Obj)} {ysv : List Value} {D : Addr} {h : Heap} (RS : RepS prog w ρ c σ3 as2 m kn3) (hsub : ∀ q ∈ led c as2 kn3, q ∈ news) (hy : All2 (IsV w ρ as2) ysF ysv) (N : News c.h₀ c.L h ((D, LCg.lst ysv) :: news)) (off : LCg.Off1 D news) :
    RepS prog w ρ c (σ3.push (.list ysF)) (as2.add D) m ((D, LCg.lst ysv) :: kn3) ∧ News c.h₀ c.L h (led c (as2.add D) ((D, LCg.lst ysv) :: kn3)) ∧ IsV w ρ (as2.add D) σ3.nxt (.ref D) := by
  refine ⟨RS.push (fun q hq => off1_mem off q (hsub q hq)) ⟨ysv, ysv.length, rfl, hy.up (Sub.add _ _)⟩, fun q hq => ?_, D, Rep.last RS D, rfl⟩
  rcases List.mem_cons.mp hq with rfl | hq
  · exact N _ List.mem_cons_self
  · exact N q (List.mem_cons_of_mem _ (hsub q hq))
theorem finE_of {ysF : List SV} {Q : Value → Shared → Prop} (ret : After prog w ρ c as s m (σ3.push (.list ysF)) (fun as' y => IsV w ρ as' σ3.nxt y) Q) {h' : Heap} {tk : Tok} (S : Sub as as1) : ∀ g ysv news, Fin0 prog w ρ c as1 m ysF σ3 ysv news → LCg.FinE c.h₀ c.L m { { s with heap := h', toks := tk } with heap := g } Q ysv news := by
  rintro g ysv news ⟨as2, kn3, S2, hy, hsub, RS⟩ D h2 tk2 F N off
  obtain ⟨R2, N2, hv⟩ := fin_push RS hsub hy N off
  exact ret h2 tk2 _ _ _ ((S.trans S2).trans (Sub.add _ _)) ⟨F, N2, R2⟩ hv
end
theorem compE_ok (H : RcOk prog w ρ P.K p loose r) (HP : SPOk prog w ρ p loose P) (C : CxOk P.K p loose c Γ.d) (G : GOk w ρ c Γ env as) {elt iter : PySem.Expr} {x : Str} {px pos : Pos} {scope : Scope} {v : SV} (h : compE P r Γ (fun _ => true) elt x iter [] scope σ = some (v, σ')) :
    Tri prog w ρ c as σ (eval (.ListComp elt [⟨.Name x px, iter, [], 0⟩] scope pos) env) σ' fun as' y => IsV w ρ as' v y := by
  intro s m kn Q R ret
  (have hz9 := chk_eq h; clear h; obtain ⟨k1, h⟩ := hz9)
  (have hz9 := bnd_eq h; clear h; obtain ⟨cl', k6, h⟩ := hz9)
  (have hz9 := bn2_eq h; clear h; obtain ⟨src, σ1, k7, h⟩ := hz9)
  (have hz9 := chk_eq h; clear h; obtain ⟨k0, h⟩ := hz9)
  (have hz9 := bn2_eq h; clear h; obtain ⟨ys, σ2, k8, h⟩ := hz9)
  (have hz9 := bnd_eq h; clear h; obtain ⟨σ3, k9, h⟩ := hz9)
  cases h
  obtain ⟨k1, k5⟩ := andB k1
  obtain ⟨n1, hk, n2, hx⟩ := scopeOk_ok k1
  obtain ⟨cl, c1, c2⟩ := clos_ok G k6
  have n3 := notSet_ok k5 env
  cases src with
  | «at» i vs => exact LCg.ListComp_U R.F c1 n1 hk n2 hx (srcE_ok H HP C G k7 s m kn _ R fun h' tk as' kn' xv S R' hs => src_list (s := { s with heap := h', toks := tk }) H C (G.mono S) (c2.mono S) hk R' hs k8 k9 (finE_of ret S)) n3
  | tup vs => cases k9; exact ListComp_Tup R.F c1 n1 hk n2 hx (srcE_ok H HP C G k7 s m kn _ R fun h' tk as' kn' xv S R' hs => src_tup (s := { s with heap := h', toks := tk }) H C (G.mono S) (c2.mono S) hk R' hs k8 (finE_of ret S)) n3
  | rng n => cases k9; exact LCg.ListComp_U R.F c1 n1 hk n2 hx (srcE_ok H HP C G k7 s m kn _ R fun h' tk as' kn' xv S R' hs => src_rng (s := { s with heap := h', toks := tk }) H C (G.mono S) (c2.mono S) hk R' hs k8 (finE_of ret S)) n3
theorem compT_ok (H : RcOk prog w ρ P.K p loose r) (HP : SPOk prog w ρ p loose P) (C : CxOk P.K p loose c Γ.d) (G : GOk w ρ c Γ env as) {elt iter t : PySem.Expr} {x : Str} {px pos : Pos} {scope : Scope} {v : SV} (h : compE P r Γ SrcS.isRng elt x iter [t] scope σ = some (v, σ')) :
    Tri prog w ρ c as σ (eval (.ListComp elt [⟨.Name x px, iter, [t], 0⟩] scope pos) env) σ' fun as' y => IsV w ρ as' v y := by
  intro s m kn Q R ret
  (have hz9 := chk_eq h; clear h; obtain ⟨k1, h⟩ := hz9)
  (have hz9 := bnd_eq h; clear h; obtain ⟨cl', k6, h⟩ := hz9)
  (have hz9 := bn2_eq h; clear h; obtain ⟨src, σ1, k7, h⟩ := hz9)
  (have hz9 := chk_eq h; clear h; obtain ⟨k0, h⟩ := hz9)
  (have hz9 := bn2_eq h; clear h; obtain ⟨ys, σ2, k8, h⟩ := hz9)
  (have hz9 := bnd_eq h; clear h; obtain ⟨σ3, k9, h⟩ := hz9)
  cases h
  obtain ⟨k1, k5⟩ := andB k1
  obtain ⟨n1, hk, n2, hx⟩ := scopeOk_ok k1
  obtain ⟨cl, c1, c2⟩ := clos_ok G k6
  cases src with
  | rng n => cases k9; exact LCt.ListComp_T R.F c1 n1 hk n2 hx (srcE_ok H HP C G k7 s m kn _ R fun h' tk as' kn' xv S R' hs => src_rngT (s := { s with heap := h', toks := tk }) H C (G.mono S) (c2.mono S) hk R' hs k8 (finE_of ret S)) (notSet_ok k5 env)
  | _ => cases k0
theorem swapB_ok {scope : Scope} {y : Str} {py cp : Pos} {elt : PySem.Expr} {gens : List Comprehension} {line : Nat} (G : GOk w ρ c Γ env as) (h : swapB Γ scope y py cp = true) : swapsWith (.ListComp elt gens scope cp) (some (.Name y py)) line env = pure true ∧ Γ.own = none ∧ kindS Γ y = some .local := by
  obtain ⟨h, h4⟩ := andB h
  obtain ⟨h, h3⟩ := andB h
  obtain ⟨h1, h2⟩ := andB h
  have e2 := isLocal_eq h2
  refine ⟨?_, isNone_eq h1, e2⟩
  have hb : (env.blockKind == .function) = true := by simp only [Env.blockKind, G.kind, ScopeKind.isAnnotationScope]; rfl
  have hk : (env.kindOf y == some .local) = true := by rw [G.kindOf, e2]; rfl
  have hn : (scope.names.any fun x => match x with | (n, k) => n == y && (k == NameKind.local || k == NameKind.cell)) = false := by
    rw [← notB h4]
    refine congrArg (fun f => scope.names.any f) (funext fun q => ?_)
    obtain ⟨n, k⟩ := q
    show (n == y && (k == NameKind.local || k == NameKind.cell)) = (strEq n y && (isLocal (some k) || isCell (some k)))
    rw [strEq_beq]
    cases k <;> rfl
  show (pure (env.blockKind == .function && env.kindOf y == some .local && py.line == cp.line && !(scope.names.any fun x => match x with | (n, k) => n == y && (k == NameKind.local || k == NameKind.cell))) : Sem Bool) = pure true
  rw [hb, hk, hn, Nat.eq_of_beq_eq_true h3, beq_self_eq_true]; rfl
theorem compA_ok (H : RcOk prog w ρ P.K p loose r) (HP : SPOk prog w ρ p loose P) (C : CxOk P.K p loose c Γ.d) (G : GOk w ρ c Γ env as) {elt iter : PySem.Expr} {x y : Str} {px py pos spos : Pos} {scope : Scope} {v : SV} (hsw : swapB Γ scope y py pos = true) (h : compE P r Γ (fun s => !s.isTup) elt x iter [] scope σ = some (v, σ')) :
    TriS prog w ρ c as σ (exec (.Assign [.Name y py] (.ListComp elt [⟨.Name x px, iter, [], 0⟩] scope pos) spos) env) { σ' with loc := putS y v σ'.loc } fun as' f => IsF w ρ as' .next f := by
  intro s m kn Q R ret
  obtain ⟨w1, w2, w3⟩ := swapB_ok (elt := elt) (gens := [⟨.Name x px, iter, [], 0⟩]) (line := spos.line) G hsw
  have hL : env.locals = c.L := by rw [G.own0 w2]; exact C.hl
  have hy : env.kindOf y = some .local := by rw [G.kindOf]; exact w3
  have hp : (env.scope.kind == .class || (env.scope.kind == .module && env.locals != env.globals)) = false := by rw [G.kind]; rfl
  (have hz9 := chk_eq h; clear h; obtain ⟨k1, h⟩ := hz9)
  (have hz9 := bnd_eq h; clear h; obtain ⟨cl', k6, h⟩ := hz9)
  (have hz9 := bn2_eq h; clear h; obtain ⟨src, σ1, k7, h⟩ := hz9)
  (have hz9 := chk_eq h; clear h; obtain ⟨k0, h⟩ := hz9)
  (have hz9 := bn2_eq h; clear h; obtain ⟨ys, σ2, k8, h⟩ := hz9)
  (have hz9 := bnd_eq h; clear h; obtain ⟨σ3, k9, h⟩ := hz9)
  cases h
  obtain ⟨k1, k5⟩ := andB k1
  obtain ⟨n1, hk, n2, hx⟩ := scopeOk_ok k1
  obtain ⟨cl, c1, c2⟩ := clos_ok G k6
  have n3 := notSet_ok k5 env
  have fin : ∀ {h' : Heap} {tk : Nat} {as' : AS}, Sub as as' → ∀ g ysv news, Fin0 prog w ρ c as' m ys σ3 ysv news → LCg.FinA c.h₀ c.L m { { s with heap := h', toks := tk } with heap := g } y Q ysv news := by
    rintro h' tk as' S g ysv news ⟨as2, kn3, S2, hy, hsub, RS⟩ D h2 tk2 F N off
    obtain ⟨R2, N2, hv⟩ := fin_push RS hsub hy N off
    exact ret h2 tk2 _ _ _ _ ((S.trans S2).trans (Sub.add as2 D)) ⟨F, N2, R2.store (x := y) hv⟩ rfl
  cases src with
  | «at» i vs => exact LCg.Assign_ListComp_U R.F hL w1 c1 n1 hk n2 hx hy hp (srcE_ok H HP C G k7 s m kn _ R fun h' tk as' kn' xv S R' hs => src_list (s := { s with heap := h', toks := tk }) H C (G.mono S) (c2.mono S) hk R' hs k8 k9 (fin S)) n3
  | tup vs => cases k0
  | rng n => cases k9; exact LCg.Assign_ListComp_U R.F hL w1 c1 n1 hk n2 hx hy hp (srcE_ok H HP C G k7 s m kn _ R fun h' tk as' kn' xv S R' hs => src_rng (s := { s with heap := h', toks := tk }) H C (G.mono S) (c2.mono S) hk R' hs k8 (fin S)) n3
end
end Mine
end
section
open PySem PySem.W PyProof.Rows
namespace Mine
section
variable {prog : Program} {w : World} {ρ : Nat → Nat} {p : Program} {loose : List Str} {P : SP} {c : Cx} {Γ : SG} {env : Env} {as as1 as2 : AS} {σ σ' σ1 : SS} {r : RC} {s : Shared} {m : Str → Option Value} {kn : List (Addr × Obj)}
theorem base_eq {o : PySem.Expr} (h : (!isSup o) = true) (attr : Str) (env : Env) (whole : Sem Value) : attributeBase o attr env whole = whole := by
  cases o with
  | Call f a k q => cases f <;> first | rfl | cases h
  | _ => rfl
theorem meth_eq {o : PySem.Expr} {name : Str} {apos pos : Pos} {args : List PySem.Expr} (hs : (!isSup o) = true) (hp : apos.endLine = pos.line) (ha : (backTo pos (starEach args env)).all (fun x => !x.1) = true) (hl : args.length < 30) :
    eval (.Call (.Attribute o name apos) args [] pos) env = (do
      let ov ← eval o env
      standAt apos.atName
      let x ← holding [ov] (getMethod ov name (do return (← importBound o env).getD true))
      match x with
      | (f, first) => callWith pos f first (backTo pos (starEach args env)) []) := by
  have e : eval (.Call (.Attribute o name apos) args [] pos) env = (do
    let ov ← attributeBase o name env (eval o env)
    standAt apos.atName
    methodCall o name apos pos env ov (args.length + 0) (backTo pos (starEach args env)) []) := rfl
  rw [e, base_eq hs]
  have hf : methodCallForm (args.length + 0) (backTo pos (starEach args env)) [] = true := by
    unfold methodCallForm
    rw [ha]
    simp
    exact hl
  unfold methodCall
  rw [hf]
  have hm : methodCallPos true o env apos pos = pure pos := by
    unfold methodCallPos
    simp [hp]
  rw [hm]
  rfl
theorem withRef (H : RcOk prog w ρ P.K p loose r) (HP : SPOk prog w ρ p loose P) (C : CxOk P.K p loose c Γ.d) (G : GOk w ρ c Γ env as) {pos : Pos} {args : List PySem.Expr} {a : Addr} {fs vs : List SV} {ys : List Value} {v : SV}
    (hL : evL r Γ args σ = some (vs, σ1)) (h : callR P r Γ.d a (fs ++ vs) σ1 = some (v, σ')) (hf : All2 (IsV w ρ as) fs ys) : Tri prog w ρ c as σ (callWith pos (.ref a) ys (backTo pos (starEach args env)) []) σ' fun as' x => IsV w ρ as' v x := by
  intro s m kn Q R ret
  have hk := callR_keep HP h
  cases args with
  | nil =>
    cases hL
    exact callWith_K0 (C.X.keeps R.F.keep) hk (callR_ok H HP h (hf.app (l' := []) (m' := []) trivial) C s m kn Q R ret)
  | cons e rest =>
    obtain ⟨q1, hL'⟩ := chk_eq hL
    obtain ⟨v', σ2, q2, hL'⟩ := bn2_eq hL'
    obtain ⟨ws, σ3, q3, _⟩ := bn2_eq hL'
    refine callWith_K C.X hk ((evL_ok H C hL G).1 s m kn _ R fun h' tk as' kn' xs S R' hxs => ⟨C.X.keeps R'.F.keep, ?_⟩) (noStar q1 rest env) (evL_ok H C q3 G).2.2.1
    exact callR_ok H HP h ((hf.up S).app hxs) C _ m kn' Q R' (ret.up S)
theorem callV_ok (H : RcOk prog w ρ P.K p loose r) (HP : SPOk prog w ρ p loose P) (C : CxOk P.K p loose c Γ.d) (G : GOk w ρ c Γ env as) {pos : Pos} {args : List PySem.Expr} {f v : SV} {vs : List SV} {x : Value}
    (hL : evL r Γ args σ = some (vs, σ1)) (h : callV P r Γ.d f vs σ1 = some (v, σ')) (hf : IsV w ρ as f x) : Tri prog w ρ c as σ (callWith pos x [] (backTo pos (starEach args env)) []) σ' fun as' x => IsV w ρ as' v x := by
  cases f with
  | fix f => cases f with
    | ref a => cases hf; exact withRef H HP C G (fs := []) hL h trivial
    | _ => cases h
  | bi b =>
    cases hf
    have hl := (evL_ok H C (pos := pos) hL G).2.1
    match vs, args, hl, h, hL with
    | [], [], _, h, hL =>
      cases b <;> cases h
      cases hL
      intro s m kn Q R ret
      refine callWith_type0 (set0_N R.F R.N fun h' c' o' F' N' hM ne => ?_)
      exact ret h' s.toks (as.fix [(c', o')]) kn _ (Sub.fix _ _) (R.grow F' N' fun p hp q hq => by rw [List.mem_singleton.mp hp]; exact ne q hq) ⟨c', o', rfl, List.mem_cons_self, hM⟩
    | [u], [e], _, h, hL =>
      obtain ⟨q1, hL'⟩ := chk_eq hL
      intro s m kn Q R ret
      have key : ∀ {QQ : List Value → Shared → Prop}, (∀ x s', wpAny (model prog w) c.A (call b.v [x]) Q NoE s' → QQ [x] s') → wpAny (model prog w) c.A (spliced (backTo pos (starEach [e] env))) QQ NoE s := fun k => (evL_ok H C hL G).1 s m kn _ R fun h' tk as' kn' xs S R' hxs => by
        match xs, hxs with
        | [x], ⟨hx, _⟩ => exact k x _ (callBI_ok HP h hx C _ m kn' Q R' (ret.up S))
      cases b with
      | len => exact callWith_method1 (id := "len") (first := []) (key fun x s' q => q) (noStar q1 [] env) rfl
      | list => exact PySem.Pv.callWith_type1 (T := "list") (key fun x s' q => q) (noStar q1 [] env) rfl
      | tuple => exact PySem.Pv.callWith_type1 (T := "tuple") (key fun x s' q => q) (noStar q1 [] env) rfl
      | range => exact PySem.Pv.callWith_type1 (T := "range") (key fun x s' q => q) (noStar q1 [] env) rfl
      | set => exact PySem.Pv.callWith_type1 (T := "set") (key fun x s' q => q) (noStar q1 [] env) rfl
    | _ :: _ :: _, _, _, h, _ => cases h
  | _ => cases h
theorem methB_ok {name : Str} {b : BM} {o : SO} (h : methB name o = some b) : (∃ us nm, o = .list us ∧ name = nm ∧ Slot "list" nm b.id ∧ typeOf (.builtin b.id) = pure (.type "method_descriptor")) ∨ ∃ hs nm, o = .homes hs ∧ name = nm ∧ Slot "dict" nm b.id ∧ typeOf (.builtin b.id) = pure (.type "method_descriptor") := by
  cases o with
  | list us =>
    left
    replace h : (bif strEq name (Str.ofString "append") then some BM.append else bif strEq name (Str.ofString "extend") then some BM.extend else bif strEq name (Str.ofString "index") then some BM.index else none) = some b := h
    cases q : strEq name (Str.ofString "append") with
    | true => rw [q] at h; cases h; exact ⟨us, _, rfl, strEq_iff.mp q, PySem.F.slot_list_append, PySem.F.type_list_append⟩
    | false =>
      rw [q, cond_false] at h
      cases q : strEq name (Str.ofString "extend") with
      | true => rw [q] at h; cases h; exact ⟨us, _, rfl, strEq_iff.mp q, PySem.F.slot_list_extend, PySem.F.type_list_extend⟩
      | false =>
        rw [q, cond_false] at h
        cases q : strEq name (Str.ofString "index") with
        | true => rw [q] at h; cases h; exact ⟨us, _, rfl, strEq_iff.mp q, PySem.F.slot_list_index, PySem.F.type_list_index⟩
        | false => rw [q] at h; cases h
  | homes hs =>
    right
    replace h : (bif strEq name (Str.ofString "setdefault") then some BM.setd else bif strEq name (Str.ofString "get") then some BM.get else none) = some b := h
    cases q : strEq name (Str.ofString "setdefault") with
    | true => rw [q] at h; cases h; exact ⟨hs, _, rfl, strEq_iff.mp q, PySem.F.slot_dict_setdefault, PySem.F.type_dict_setdefault⟩
    | false =>
      rw [q, cond_false] at h
      cases q : strEq name (Str.ofString "get") with
      | true => rw [q] at h; cases h; exact ⟨hs, _, rfl, strEq_iff.mp q, PySem.F.slot_dict_get, PySem.F.type_dict_get⟩
      | false => rw [q] at h; cases h
  | _ => cases h
theorem methS_ok (H : RcOk prog w ρ P.K p loose r) (HP : SPOk prog w ρ p loose P) (C : CxOk P.K p loose c Γ.d) (G : GOk w ρ c Γ env as) {pos : Pos} {args : List PySem.Expr} {name : Str} {v u : SV} {vs : List SV} {x : Value} {pl : Sem Bool} {σ2 : SS}
    (hL : evL r Γ args σ = some (vs, σ2)) (h : methS P r Γ.d v name args.isEmpty vs σ σ2 = some (u, σ')) (hx : IsV w ρ as v x) (R : Rep prog w ρ c s.heap σ as m kn) {Q : Value → Shared → Prop} (ret : After prog w ρ c as s m σ' (fun as' x => IsV w ρ as' u x) Q) :
    wpAny (model prog w) c.A (getMethod x name pl) (fun fx s₂ => wpAny (model prog w) c.A (callWith pos fx.1 fx.2 (backTo pos (starEach args env)) []) Q NoE s₂) NoE s := by
  (have hz9 := bnd_eq h; clear h; obtain ⟨i, h1, h⟩ := hz9)
  (have hz9 := bnd_eq h; clear h; obtain ⟨o, h2, h⟩ := hz9)
  cases asLoc_eq h1
  obtain ⟨a, ea, rfl⟩ := hx
  cases q : methB name o with
  | some b =>
    simp only [q] at h
    (have hz9 := chk_eq h; clear h; obtain ⟨h3, h⟩ := hz9)
    (have hz9 := bnd_eq h; clear h; obtain ⟨o2, h4, h⟩ := hz9)
    have hk : ∀ {e rest}, args = e :: rest → wpAny (model prog w) c.A (callWith pos (.builtin b.id) [.ref a] (backTo pos (starEach args env)) []) Q NoE s := by
      rintro e rest rfl
      obtain ⟨q1, hL'⟩ := chk_eq hL
      obtain ⟨v', σ2', q2, hL'⟩ := bn2_eq hL'
      obtain ⟨ws, σ3, q3, _⟩ := bn2_eq hL'
      refine callWith_method1 ((evL_ok H C hL G).1 s m kn _ R fun h' tk as' kn' xs S R' hxs => ?_) (noStar q1 rest env) (evL_ok H C q3 G).2.2.1
      exact callBM_ok h h4 (S.nth ea) hxs C _ m kn' Q R' (ret.up S)
    have hk : wpAny (model prog w) c.A (callWith pos (.builtin b.id) [.ref a] (backTo pos (starEach args env)) []) Q NoE s := by
      cases args with
      | nil => cases h3
      | cons e rest => exact hk rfl
    rcases methB_ok q with ⟨us, nm, rfl, rfl, k1, k2⟩ | ⟨hs, nm, rfl, rfl, k1, k2⟩
    · obtain ⟨a', ob, f1, f2, xs, n, rfl, f3⟩ := R.S.ok i _ h2 (by nofun)
      rw [ea] at f1; cases f1
      exact kl_method R.N (mem_kn f2) k1 k2 hk
    · obtain ⟨a', ob, f1, f2, hz, ys, f3, f4⟩ := R.S.ok i _ h2 (by nofun)
      rw [ea] at f1; cases f1
      exact homes_meth k1 k2 R.N f3 (mem_kn f2) hk
  | none =>
    simp only [q] at h
    (have hz9 := bnd_eq h; clear h; obtain ⟨z, h3, h⟩ := hz9)
    (have hz9 := chk_eq h; clear h; obtain ⟨h4, h⟩ := hz9)
    (have hz9 := bnd_eq h; clear h; obtain ⟨f, h5, h⟩ := hz9)
    obtain ⟨a', da, es, n, e1, _, _, f2, g2, g3⟩ := inst_eq h3 (x := .ref a) ⟨a, ea, rfl⟩ R
    cases e1
    obtain ⟨k1, k2, k3⟩ := HP.meth h5
    exact method_inst R.F C.X (InstAt.of_news R.N (mem_kn f2) (mem_kn g2)) k1 k2 k3 ((g3.2 name).2 (isNone_eq h4)) (withRef H HP C G (fs := [.loc i]) (ys := [.ref a]) hL h ⟨⟨a, ea, rfl⟩, trivial⟩ s m kn Q R ret)
theorem evCall_ok (H : RcOk prog w ρ P.K p loose r) (HP : SPOk prog w ρ p loose P) (C : CxOk P.K p loose c Γ.d) (G : GOk w ρ c Γ env as) {func : PySem.Expr} {args : List PySem.Expr} {pos : Pos} {v : SV} (h : evCall P r Γ func args pos σ = some (v, σ')) :
    Tri prog w ρ c as σ (eval (.Call func args [] pos) env) σ' fun as' x => IsV w ρ as' v x := by
  intro s m kn Q R ret
  have plain : (eval (.Call func args [] pos) env = (do callWith pos (← eval func env) [] (backTo pos (starEach args env)) [])) → (bn2 (r.e Γ func σ) fun f σ1 => bn2 (evL r Γ args σ1) fun vs σ2 => callV P r Γ.d f vs σ2) = some (v, σ') → wpAny (model prog w) c.A (eval (.Call func args [] pos) env) Q NoE s := fun he h => by
    (have hz9 := bn2_eq h; clear h; obtain ⟨f, σ1, h1, h⟩ := hz9)
    (have hz9 := bn2_eq h; clear h; obtain ⟨vs, σ2, h2, h⟩ := hz9)
    refine Call_ (H.e h1 C G s m kn _ R fun h' tk as' kn' x S R' hx => ?_) he
    exact callV_ok H HP C (G.mono S) h2 h hx _ m kn' Q R' (ret.up S)
  cases func with
  | Attribute o name apos =>
    (have hz9 := chk_eq h; clear h; obtain ⟨k1, h⟩ := hz9)
    (have hz9 := bn2_eq h; clear h; obtain ⟨v', σ1, k3, h⟩ := hz9)
    (have hz9 := bn2_eq h; clear h; obtain ⟨vs, σ2, k5, h⟩ := hz9)
    obtain ⟨k1, k6⟩ := andB k1
    obtain ⟨k1, k2⟩ := andB k1
    refine MethodCall_ (H.e k3 C G s m kn _ R fun h' tk as' kn' x S R' hx => ?_) (meth_eq k1 (Nat.eq_of_beq_eq_true k2) (evL_ok H C k5 G).2.2.2 (Nat.lt_of_le_of_lt (Nat.le_of_ble_eq_true k6) (by decide)))
    exact methS_ok (s := { s with heap := h', toks := tk }) H HP C (G.mono S) k5 h hx R' (ret.up S)
  | _ => exact plain rfl h
theorem evBool_ok (H : RcOk prog w ρ P.K p loose r) (C : CxOk P.K p loose c Γ.d) {op : BoolOp} {pos : Pos} : ∀ {xs : List PySem.Expr} {b : Bool} {σ : SS} {as : AS}, evBool r Γ op xs σ = some (b, σ') → GOk w ρ c Γ env as → Tri prog w ρ c as σ (eval (.BoolOp op xs pos) env) σ' fun _ y => y = .bool b
  | [x], b, σ, as, h, G => by
    intro s m kn Q R ret
    obtain ⟨v, σ1, h1, h'⟩ := bn2_eq h
    obtain ⟨b', h2, h'⟩ := bnd_eq h'
    cases h'
    cases asBool_eq h2
    exact BoolOp_one (H.e h1 C G s m kn _ R fun h' tk as' kn' x S R' hx => ret h' tk as' kn' x S R' hx)
  | x :: y :: l, b, σ, as, h, G => by
    intro s m kn Q R ret
    obtain ⟨v, σ1, h1, h'⟩ := bn2_eq h
    clear h
    obtain ⟨b', h2, h⟩ := bnd_eq h'
    clear h'
    cases asBool_eq h2
    cases op with
    | And =>
      refine BoolOp_and (H.e h1 C G s m kn _ R fun h' tk as' kn' x S R' hx => ?_)
      cases hx
      refine wpAny_truthy_bool ?_
      cases b' with
      | false => cases h; rw [if_neg (by decide)]; exact ret h' tk as' kn' _ S R' rfl
      | true => rw [if_pos rfl]; exact evBool_ok H C h (G.mono S) _ m kn' Q R' (ret.up S)
    | Or =>
      refine BoolOp_or (H.e h1 C G s m kn _ R fun h' tk as' kn' x S R' hx => ?_)
      cases hx
      refine wpAny_truthy_bool ?_
      cases b' with
      | true => cases h; rw [if_pos rfl]; exact ret h' tk as' kn' _ S R' rfl
      | false => rw [if_neg (by decide)]; exact evBool_ok H C h (G.mono S) _ m kn' Q R' (ret.up S)
theorem compG_eq {gs : List Comprehension} {q : Str × PySem.Expr × List PySem.Expr} (h : compG gs = some q) : ∃ px, gs = [⟨.Name q.1 px, q.2.1, q.2.2, 0⟩] := by
  (have hz9 := bnd_eq h; clear h; obtain ⟨g, h1, h⟩ := hz9)
  obtain ⟨t, iter, ifs, a⟩ := g
  (have hz9 := chk_eq h; clear h; obtain ⟨h2, h⟩ := hz9)
  (have hz9 := bnd_eq h; clear h; obtain ⟨x, h3, h⟩ := hz9)
  cases h
  cases one_eq h1
  obtain ⟨px, e⟩ := asName_eq h3
  cases e
  rw [of_decide_eq_true h2]
  exact ⟨px, rfl⟩
theorem isOne_eq {b : Option PySem.Expr} (h : isOne b = true) : ∃ u p, b = some (.Constant (.int 1) u p) := by
  obtain ⟨e, h1, h⟩ := isS_eq h
  obtain ⟨k, h2, h⟩ := isS_eq h
  obtain ⟨i, h3, h⟩ := isS_eq h
  have e2 : k = .int i := by cases k <;> cases h3; rfl
  obtain ⟨u, p, e1⟩ := asCst_eq h2
  exact ⟨u, p, by rw [h1, e1, e2, of_decide_eq_true h]⟩
end
end Mine
end
section
open PySem PySem.W PyProof.Rows
namespace Mine
section
variable {prog : Program} {w : World} {ρ : Nat → Nat} {p : Program} {loose : List Str} {P : SP} {c : Cx} {Γ : SG} {env : Env} {as as1 as2 : AS} {σ σ' σ1 : SS} {r : RC} {s : Shared} {m : Str → Option Value} {kn : List (Addr × Obj)}
theorem evE_ok (H : RcOk prog w ρ P.K p loose r) (HP : SPOk prog w ρ p loose P) {e : PySem.Expr} {v : SV} (h : evE P r Γ e σ = some (v, σ')) (C : CxOk P.K p loose c Γ.d) (G : GOk w ρ c Γ env as) :
    Tri prog w ρ c as σ (eval e env) σ' fun as' x => IsV w ρ as' v x := by
  intro s m kn Q R ret
  cases e with
  | Name x pos =>
    (have hz9 := chk_eq h; clear h; obtain ⟨h1, h⟩ := hz9)
    (have hz9 := bnd_eq h; clear h; obtain ⟨v', h2, h⟩ := hz9)
    cases h
    exact name_ok HP h1 h2 C G s m kn Q R ret
  | Constant k u pos => exact const_ok h s m kn Q R ret
  | List es pos =>
    (have hz9 := bn2_eq h; clear h; obtain ⟨vs, σ1, h1, h⟩ := hz9)
    (have hz9 := chk_eq h; clear h; obtain ⟨h2, h⟩ := hz9)
    cases h
    refine List_ ((evL_ok H C h1 G).1 s m kn _ R fun h' tk as' kn' xs S R' hx => ?_)
    exact newList_K R'.F R'.N (fun l h2 F' N' lt => (ret.up (h' := h') (tk := tk) S).lst (s := { s with heap := h', toks := tk }) R' F' N' lt hx) (size_ok (hx.len ▸ ble_ok h2))
  | Tuple es k pos =>
    (have hz9 := bn2_eq h; clear h; obtain ⟨vs, σ1, h1, h⟩ := hz9)
    (have hz9 := chk_eq h; clear h; obtain ⟨h2, h⟩ := hz9)
    cases h
    refine Tuple_ ((evL_ok H C h1 G).1 s m kn _ R fun h' tk as' kn' xs S R' hx => ?_)
    exact kup_newTuple R'.F R'.N (fun l h2 F' N' lt => (ret.up (h' := h') (tk := tk) S).tup (s := { s with heap := h', toks := tk }) R' F' N' lt hx) (size_ok (hx.len ▸ ble_ok h2))
  | Dict ks vs pos =>
    (have hz9 := chk_eq h; clear h; obtain ⟨h1, h⟩ := hz9)
    cases h
    cases List.isEmpty_iff.mp (andB h1).1
    cases List.isEmpty_iff.mp (andB h1).2
    obtain ⟨A₀, base, outer, mean, mg, mb, B, T, _⟩ := C.ex
    exact newDict_K R.F R.N T.nolimit fun d h' o F' N' lt lo _ _ hd _ => ret.new R F' N' lt ⟨lo, [], HomesObj.nil hd, trivial⟩
  | Attribute o name pos =>
    (have hz9 := chk_eq h; clear h; obtain ⟨h1, h⟩ := hz9)
    (have hz9 := bn2_eq h; clear h; obtain ⟨v', σ1, h2, h⟩ := hz9)
    (have hz9 := bnd_eq h; clear h; obtain ⟨y, h3, h⟩ := hz9)
    cases h
    refine Attribute_any_ (H.e h2 C G s m kn _ R fun h' tk as' kn' x S R' hx => ?_) ?_
    · exact getA_ok HP h3 hx C _ m kn' Q R' (ret.up S)
    · have e : eval (.Attribute o name pos) env = (do
        let o2 ← attributeBase o name env (eval o env)
        standAt pos.atName
        let r ← holding [o2] (getAttr o2 name true)
        letTemporaryGo o o2 r
        pure r) := rfl
      rw [e, base_eq h1]
  | Subscript o i pos =>
    (have hz9 := bn2_eq h; clear h; obtain ⟨v', σ1, h1, h⟩ := hz9)
    cases q : isSlice i with
    | true =>
      rw [q, cond_true] at h
      (have hz9 := chk_eq h; clear h; obtain ⟨k1, h⟩ := hz9)
      (have hz9 := bnd_eq h; clear h; obtain ⟨t, k3, h⟩ := hz9)
      (have hz9 := chk_eq h; clear h; obtain ⟨k4, h⟩ := hz9)
      cases h
      cases asStr_eq k3
      obtain ⟨k1, k2⟩ := andB k1
      cases i with
      | Slice a b cc ip =>
        obtain ⟨k1, k5⟩ := andB k1
        obtain ⟨k1, k6⟩ := andB k1
        cases isNone_eq k1
        cases isNone_eq k5
        obtain ⟨u, p1, rfl⟩ := isOne_eq k6
        cases o <;> first | cases k2 | skip
        refine Subscript_ (H.e h1 C G s m kn _ R fun h' tk as' kn' x S R' hx => ?_)
        obtain ⟨tt, rfl⟩ := hx
        refine wpAny_Slice (evalPart_none_step (evalPart_some_step (wpAny_Constant_int (evalPart_none_step ?_))))
        exact slice_strN_ns_len (s := { s with heap := h', toks := tk + 1 }) R'.F R'.N (fun h2 t2 k F2 N2 _ => ret h2 k as' kn' _ S (R'.stay F2 N2) ⟨t2, rfl⟩) rfl (fun _ => rfl) (size_ok (ble_ok k4))
      | _ => cases k1
    | false =>
      rw [q, cond_false] at h
      (have hz9 := bn2_eq h; clear h; obtain ⟨iv, σ2, k1, h⟩ := hz9)
      (have hz9 := bnd_eq h; clear h; obtain ⟨y, k2, h⟩ := hz9)
      cases h
      refine Subscript_ (H.e h1 C G s m kn _ R fun h' tk as' kn' x S R' hx => ?_)
      refine H.e k1 C (G.mono S) _ m kn' _ R' fun h2 tk2 as2 kn2 x2 S2 R2 hx2 => ?_
      exact itemS_ok k2 q (hx.mono S2) hx2 _ m kn2 Q R2 (ret.up (S.trans S2))
  | Call func args ks pos =>
    (have hz9 := chk_eq h; clear h; obtain ⟨h1, h⟩ := hz9)
    cases List.isEmpty_iff.mp h1
    exact evCall_ok H HP C G h s m kn Q R ret
  | BinOp l op q pos =>
    (have hz9 := bn2_eq h; clear h; obtain ⟨a, σ1, k1, h⟩ := hz9)
    (have hz9 := bn2_eq h; clear h; obtain ⟨b, σ2, k2, h⟩ := hz9)
    refine wpAny_BinOp (H.e k1 C G s m kn _ R fun h' tk as' kn' x S R' hx => ?_)
    refine H.e k2 C (G.mono S) _ m kn' _ R' fun h2 tk2 as2 kn2 x2 S2 R2 hx2 => ?_
    exact binS_ok h (hx.mono S2) hx2 _ m kn2 Q R2 (ret.up (S.trans S2))
  | Compare l ops ms pos =>
    match ops, ms, h with
    | [op], [q], h =>
      (have hz9 := chk_eq h; clear h; obtain ⟨k0, h⟩ := hz9)
      (have hz9 := bn2_eq h; clear h; obtain ⟨a, σ1, k1, h⟩ := hz9)
      (have hz9 := bn2_eq h; clear h; obtain ⟨b, σ2, k2, h⟩ := hz9)
      (have hz9 := bnd_eq h; clear h; obtain ⟨u, k3, h⟩ := hz9)
      cases h
      refine wpAny_Compare1 (H.e k1 C G s m kn _ R fun h' tk as' kn' x S R' hx => ?_) (notB k0)
      refine H.e k2 C (G.mono S) _ m kn' _ R' fun h2 tk2 as2 kn2 x2 S2 R2 hx2 => ?_
      exact cmpS_ok k3 (hx.mono S2) hx2 (by have := C.hu; omega) _ m kn2 Q R2 (ret.up (S.trans S2))
    | [op, op2], [q, q2], h =>
      (have hz9 := chk_eq h; clear h; obtain ⟨k0, h⟩ := hz9)
      (have hz9 := bn2_eq h; clear h; obtain ⟨a, σ1, k1, h⟩ := hz9)
      (have hz9 := bn2_eq h; clear h; obtain ⟨b, σ2, k2, h⟩ := hz9)
      (have hz9 := bnd_eq h; clear h; obtain ⟨u, k3, h⟩ := hz9)
      refine Compare_chain (H.e k1 C G s m kn _ R fun h' tk as' kn' x S R' hx => chain_link ?_) (by show behindInMarks op2 q2 = false; exact notB (andB k0).2)
      refine H.e k2 C (G.mono S) _ m kn' _ R' fun h2 tk2 as2 kn2 x2 S2 R2 hx2 => ?_
      refine cmpS_ok k3 (hx.mono S2) hx2 (by have := C.hu; omega) _ m kn2 _ R2 fun h3 tk3 as3 kn3 x3 S3 R3 hx3 => ?_
      subst hx3
      refine wpAny_truthy_bool ?_
      cases u with
      | false => cases h; rw [if_neg (by decide)]; exact ret h3 tk3 as3 kn3 _ ((S.trans S2).trans S3) R3 rfl
      | true =>
        rw [cond_true] at h
        (have hz9 := bn2_eq h; clear h; obtain ⟨b2, σ3, k4, h⟩ := hz9)
        (have hz9 := bnd_eq h; clear h; obtain ⟨c2, k5, h⟩ := hz9)
        cases h
        rw [if_pos rfl]
        refine chain_last (H.e k4 C (G.mono ((S.trans S2).trans S3)) _ m kn3 _ R3 fun h4 tk4 as4 kn4 x4 S4 R4 hx4 => ?_)
        exact cmpS_ok k5 (hx2.mono (S3.trans S4)) hx4 (by have := C.hu; omega) _ m kn4 Q R4 (ret.up (((S.trans S2).trans S3).trans S4))
    | [], _, h => cases h
    | [_], [], h => cases h
    | [_], _ :: _ :: _, h => cases h
    | [_, _], [], h => cases h
    | [_, _], [_], h => cases h
    | [_, _], _ :: _ :: _ :: _, h => cases h
    | _ :: _ :: _ :: _, _, h => cases h
  | UnaryOp op q pos =>
    cases op with
    | USub =>
      (have hz9 := bn2_eq h; clear h; obtain ⟨a, σ1, k1, h⟩ := hz9)
      (have hz9 := bnd_eq h; clear h; obtain ⟨k, k2, h⟩ := hz9)
      cases h
      cases asInt_eq k2
      refine UnaryOp_ (H.e k1 C G s m kn _ R fun h' tk as' kn' x S R' hx => ?_)
      obtain ⟨t, rfl⟩ := hx
      exact neg_int (ret h' _ as' kn' _ S R' ⟨_, rfl⟩)
    | _ => cases h
  | BoolOp op xs pos =>
    (have hz9 := bn2_eq h; clear h; obtain ⟨b, σ1, h1, h⟩ := hz9)
    cases h
    exact evBool_ok H C h1 G s m kn Q R ret
  | IfExp t b o pos =>
    (have hz9 := bn2_eq h; clear h; obtain ⟨u, σ1, k1, h⟩ := hz9)
    refine IfExp_ (H.t k1 C G s m kn _ R fun h' tk as' kn' x S R' hx => ?_)
    subst hx
    cases x with
    | true => rw [if_pos rfl]; exact H.e h C (G.mono S) _ m kn' Q R' (ret.up S)
    | false => rw [if_neg (by decide)]; exact H.e h C (G.mono S) _ m kn' Q R' (ret.up S)
  | ListComp elt gs scope pos =>
    (have hz9 := bnd_eq h; clear h; obtain ⟨g, h1, h⟩ := hz9)
    obtain ⟨x, iter, ifs⟩ := g
    obtain ⟨px, rfl⟩ := compG_eq h1
    match ifs, h with
    | [], h => exact compE_ok H HP C G h s m kn Q R ret
    | [t], h => exact compT_ok H HP C G h s m kn Q R ret
    | _ :: _ :: _, h => cases h
  | _ => cases h
theorem evT_ok (H : RcOk prog w ρ P.K p loose r) {e : PySem.Expr} {b : Bool} (h : evT P r Γ e σ = some (b, σ')) (C : CxOk P.K p loose c Γ.d) (G : GOk w ρ c Γ env as) :
    Tri prog w ρ c as σ (isTrue e env (eval e env)) σ' fun _ x => x = b := by
  have plain : ∀ {e : PySem.Expr}, evTV r Γ e σ = some (b, σ') → (isTrue e env (eval e env) = (do
        let v ← eval e env
        standAt e.pos
        holding [v] (truthy v))) → Tri prog w ρ c as σ (isTrue e env (eval e env)) σ' fun _ x => x = b := by
    intro e h he s m kn Q R ret
    obtain ⟨v, σ1, k1, h'⟩ := bn2_eq h
    clear h
    (have hz9 := bnd_eq h'; clear h'; obtain ⟨b', k2, h'⟩ := hz9)
    cases h'
    cases asBool_eq k2
    refine isTrue_plain (H.e k1 C G s m kn _ R fun h' tk as' kn' x S R' hx => ?_) he
    cases hx
    exact wpAny_truthy_bool (ret h' tk as' kn' _ S R' rfl)
  intro s m kn Q R ret
  cases e with
  | UnaryOp op x pos =>
    cases op with
    | Not =>
      (have hz9 := bn2_eq h; clear h; obtain ⟨b', σ1, k1, h⟩ := hz9)
      cases h
      exact isTrue_not (H.t k1 C G s m kn _ R fun h' tk as' kn' x S R' hx => ret h' tk as' kn' _ S R' (by rw [hx]))
    | _ => cases h
  | BoolOp op xs pos =>
    cases op with
    | And => cases xs with
      | nil => cases h; exact isTrue_and_nil (ret.now R (tk := s.toks) rfl)
      | cons x rest =>
        (have hz9 := bn2_eq h; clear h; obtain ⟨b', σ1, k1, h⟩ := hz9)
        refine isTrue_and (H.t k1 C G s m kn _ R fun h' tk as' kn' x S R' hx => ?_)
        subst hx
        cases x with
        | true => rw [if_pos rfl]; exact H.t h C (G.mono S) _ m kn' Q R' (ret.up S)
        | false => cases h; rw [if_neg (by decide)]; exact ret h' tk as' kn' _ S R' rfl
    | Or => cases xs with
      | nil => cases h; exact isTrue_or_nil (ret.now R (tk := s.toks) rfl)
      | cons x rest =>
        (have hz9 := bn2_eq h; clear h; obtain ⟨b', σ1, k1, h⟩ := hz9)
        refine isTrue_or (H.t k1 C G s m kn _ R fun h' tk as' kn' x S R' hx => ?_)
        subst hx
        cases x with
        | false => rw [if_neg (by decide)]; exact H.t h C (G.mono S) _ m kn' Q R' (ret.up S)
        | true => cases h; rw [if_pos rfl]; exact ret h' tk as' kn' _ S R' rfl
  | Compare l ops ms pos =>
    match ops, ms, h with
    | [op], [q], h =>
      (have hz9 := chk_eq h; clear h; obtain ⟨k0, h⟩ := hz9)
      (have hz9 := bn2_eq h; clear h; obtain ⟨a, σ1, k1, h⟩ := hz9)
      (have hz9 := bn2_eq h; clear h; obtain ⟨b', σ2, k2, h⟩ := hz9)
      (have hz9 := bnd_eq h; clear h; obtain ⟨u, k3, h⟩ := hz9)
      cases h
      refine wpAny_isTrue_Compare1 (H.e k1 C G s m kn _ R fun h' tk as' kn' x S R' hx => ?_) (notB k0)
      refine H.e k2 C (G.mono S) _ m kn' _ R' fun h2 tk2 as2 kn2 x2 S2 R2 hx2 => ?_
      refine cmpS_ok k3 (hx.mono S2) hx2 (by have := C.hu; omega) _ m kn2 _ R2 fun h3 tk3 as3 kn3 x3 S3 R3 hx3 => ?_
      subst hx3
      exact wpAny_truthy_bool (ret h3 tk3 as3 kn3 _ ((S.trans S2).trans S3) R3 rfl)
    | [], _, h => cases h
    | [_], [], h => cases h
    | [_], _ :: _ :: _, h => cases h
    | _ :: _ :: _, _, h => cases h
  | Name => exact plain h rfl s m kn Q R ret
  | Call => exact plain h rfl s m kn Q R ret
  | Subscript => exact plain h rfl s m kn Q R ret
  | _ => cases h
end
end Mine
end
section
open PySem PySem.W PyProof.Rows
namespace Mine
mutual
theorem SV.eq_ok : ∀ {a b : SV}, a.eq b = true → a = b
  | .int a, b, h => by obtain ⟨y, e, h⟩ := isS_eq h; cases asInt_eq e; cases of_decide_eq_true h; rfl
  | .msk a, b, h => by obtain ⟨y, e, h⟩ := isS_eq h; cases asMsk_eq e; cases natsEq_iff.mp h; rfl
  | .str a, b, h => by obtain ⟨y, e, h⟩ := isS_eq h; cases asStr_eq e; cases strEq_iff.mp h; rfl
  | .bool a, b, h => by obtain ⟨y, e, h⟩ := isS_eq h; cases asBool_eq e; cases beq_iff_eq.mp h; rfl
  | .none, b, h => by cases b <;> first | rfl | cases h
  | .loc a, b, h => by obtain ⟨y, e, h⟩ := isS_eq h; cases asLoc_eq e; cases Nat.eq_of_beq_eq_true h; rfl
  | .tup a, b, h => by obtain ⟨y, e, h⟩ := isS_eq h; cases asTup_eq e; cases svsEq_ok h; rfl
  | .set a, b, h => by obtain ⟨y, e, h⟩ := isS_eq h; cases asSet_eq e; cases natsEq_iff.mp h; rfl
  | .bi _, _, h => nomatch h
  | .fix _, _, h => nomatch h
theorem svsEq_ok : ∀ {a b : List SV}, svsEq a b = true → a = b
  | [], [], _ => rfl
  | a :: l, b :: m, h => by obtain ⟨h1, h2⟩ := andB h; rw [SV.eq_ok h1, svsEq_ok h2]
  | [], _ :: _, h => nomatch h
  | _ :: _, [], h => nomatch h
end
theorem fsEq_ok : ∀ {a b : List (Str × SV)}, fsEq a b = true → a = b
  | [], [], _ => rfl
  | a :: l, b :: m, h => by obtain ⟨h1, h3⟩ := andB h; obtain ⟨h1, h2⟩ := andB h1; rw [fsEq_ok h3, Prod.ext (strEq_iff.mp h1) (SV.eq_ok h2)]
  | [], _ :: _, h => nomatch h
  | _ :: _, [], h => nomatch h
theorem hsEq_ok : ∀ {a b : List (List Int × SV)}, hsEq a b = true → a = b
  | [], [], _ => rfl
  | a :: l, b :: m, h => by obtain ⟨h1, h3⟩ := andB h; obtain ⟨h1, h2⟩ := andB h1; rw [hsEq_ok h3, Prod.ext (intsEq_iff.mp h1) (SV.eq_ok h2)]
  | [], _ :: _, h => nomatch h
  | _ :: _, [], h => nomatch h
theorem SO.eq_ok : ∀ {a b : SO}, a.eq b = true → a = b
  | .list a, b, h => by obtain ⟨y, e, h⟩ := isS_eq h; cases oList_eq e; cases svsEq_ok h; rfl
  | .inst a d, b, h => by obtain ⟨y, e, h⟩ := isS_eq h; obtain ⟨h1, h2⟩ := andB h; cases oInst_eq e; rw [Nat.eq_of_beq_eq_true h1, Nat.eq_of_beq_eq_true h2]
  | .dict a, b, h => by obtain ⟨y, e, h⟩ := isS_eq h; cases oDict_eq e; cases fsEq_ok h; rfl
  | .homes a, b, h => by obtain ⟨y, e, h⟩ := isS_eq h; cases oHomes_eq e; cases hsEq_ok h; rfl
  | .cell none, b, h => by obtain ⟨y, e, h⟩ := isS_eq h; cases oCell_eq e; cases isNone_eq h; rfl
  | .cell (some a), b, h => by obtain ⟨y, e, h⟩ := isS_eq h; obtain ⟨z, e2, h⟩ := isS_eq h; cases oCell_eq e; cases e2; cases SV.eq_ok h; rfl
  | .gone, b, h => (goneB h).symm
theorem osEq_ok : ∀ {a b : List SO}, osEq a b = true → a = b
  | [], [], _ => rfl
  | a :: l, b :: m, h => by obtain ⟨h1, h2⟩ := andB h; rw [SO.eq_ok h1, osEq_ok h2]
  | [], _ :: _, h => nomatch h
  | _ :: _, [], h => nomatch h
section
variable {prog : Program} {w : World} {ρ : Nat → Nat} {p : Program} {loose : List Str} {P : SP} {c : Cx} {Γ : SG} {env : Env} {as as1 as2 : AS} {σ σ' σ1 : SS} {r : RC} {s : Shared} {m : Str → Option Value} {kn : List (Addr × Obj)}
theorem pair_swap {v u : SV} {q z : Int × List Nat} {x : Value} (h : asPair v = some q) (k : asPair u = some z) (e1 : q.1 = z.1) (e2 : mval ρ q.2 = mval ρ z.2) (hx : IsV w ρ as u x) : IsV w ρ as v x := by
  (have hz9 := bnd_eq h; clear h; obtain ⟨vs, h1, h⟩ := hz9)
  (have hz9 := bn2_eq h; clear h; obtain ⟨a, b, h2, h⟩ := hz9)
  (have hz9 := bnd_eq h; clear h; obtain ⟨i, h3, h⟩ := hz9)
  (have hz9 := bnd_eq h; clear h; obtain ⟨l, h4, h⟩ := hz9)
  (have hz9 := bnd_eq k; clear k; obtain ⟨us, k1, k⟩ := hz9)
  (have hz9 := bn2_eq k; clear k; obtain ⟨a', b', k2, k⟩ := hz9)
  (have hz9 := bnd_eq k; clear k; obtain ⟨i', k3, k⟩ := hz9)
  (have hz9 := bnd_eq k; clear k; obtain ⟨l', k4, k⟩ := hz9)
  cases h; cases k
  cases asTup_eq h1; cases asTup_eq k1; cases two_eq h2; cases two_eq k2; cases asInt_eq h3; cases asInt_eq k3; cases asMsk_eq h4; cases asMsk_eq k4
  obtain ⟨b, ys, n, rfl, g2, g3⟩ := hx
  match ys, g3, g2 with
  | [_, _], ⟨⟨t, rfl⟩, ⟨u, rfl⟩, _⟩, g2 =>
  exact ⟨b, _, n, rfl, g2, ⟨t, by rw [show i = i' from e1]⟩, ⟨u, by rw [show mval ρ l = mval ρ l' from e2]⟩, trivial⟩
theorem ker_swap {v u : SV} {ps qs : List (Int × List Nat)} {x : Value} (h : asKer v = some ps) (k : asKer u = some qs) (e : valK ρ ps = valK ρ qs) (hx : IsV w ρ as u x) : IsV w ρ as v x := by
  (have hz9 := bnd_eq h; clear h; obtain ⟨vs, h1, h⟩ := hz9)
  (have hz9 := bnd_eq k; clear k; obtain ⟨us, k1, k⟩ := hz9)
  cases asTup_eq h1; cases asTup_eq k1
  obtain ⟨b, ys, n, rfl, g2, g3⟩ := hx
  refine ⟨b, ys, n, rfl, g2, ?_⟩
  have key : ∀ {vs us : List SV} {ps qs : List (Int × List Nat)} {ys : List Value}, allOf asPair vs = some ps → allOf asPair us = some qs → valK ρ ps = valK ρ qs → IsVs w ρ as us ys → IsVs w ρ as vs ys := by
    intro vs
    induction vs with
    | nil =>
      intro us ps qs ys h k e hx
      cases h
      cases us with
      | nil => exact hx
      | cons u us => (have hz9 := bnd_eq k; clear k; obtain ⟨z, k1, k⟩ := hz9); (have hz9 := bnd_eq k; clear k; obtain ⟨l, k2, k⟩ := hz9); cases k; cases e
    | cons v vs ih =>
      intro us ps qs ys h k e hx
      (have hz9 := bnd_eq h; clear h; obtain ⟨q, h1, h⟩ := hz9)
      (have hz9 := bnd_eq h; clear h; obtain ⟨l, h2, h⟩ := hz9)
      cases h
      cases us with
      | nil => cases k; cases e
      | cons u us =>
        (have hz9 := bnd_eq k; clear k; obtain ⟨z, k1, k⟩ := hz9)
        (have hz9 := bnd_eq k; clear k; obtain ⟨l', k2, k⟩ := hz9)
        cases k
        injection e with e1 e2
        injection e1 with e3 e4
        match ys, hx with
        | y :: ys, ⟨hy, hx⟩ => exact ⟨pair_swap h1 k1 e3 e4 hy, ih h2 k2 e2 hx⟩
  exact key h k e g3
theorem ifNe_ok (H : RcOk prog w ρ P.K p loose r) (HP : SPOk prog w ρ p loose P) {x y name : Str} {b : List Stmt} {f : SF} {p1 p2 p3 p4 pos : Pos} (h : ifNe P r Γ x y name b σ = some (f, σ')) (C : CxOk P.K p loose c Γ.d) (G : GOk w ρ c Γ env as) :
    TriS prog w ρ c as σ (exec (.If (.Compare (.Name x p1) [.NotEq] [.Attribute (.Name y p2) name p3] p4) b [] pos) env) σ' fun as' x => IsF w ρ as' f x := by
  intro s m kn Q R ret
  (have hz9 := chk_eq h; clear h; obtain ⟨h1, h⟩ := hz9)
  (have hz9 := bnd_eq h; clear h; obtain ⟨v, h2, h⟩ := hz9)
  (have hz9 := bnd_eq h; clear h; obtain ⟨ov, h3, h⟩ := hz9)
  (have hz9 := bnd_eq h; clear h; obtain ⟨q, h4, h⟩ := hz9)
  (have hz9 := chk_eq h; clear h; obtain ⟨h5, h⟩ := hz9)
  (have hz9 := bnd_eq h; clear h; obtain ⟨u, h6, h⟩ := hz9)
  (have hz9 := bnd_eq h; clear h; obtain ⟨ps, h7, h⟩ := hz9)
  (have hz9 := bnd_eq h; clear h; obtain ⟨qs, h8, h⟩ := hz9)
  (have hz9 := chk_eq h; clear h; obtain ⟨h9, h⟩ := hz9)
  (have hz9 := bn2_eq h; clear h; obtain ⟨f', σT, h10, h⟩ := hz9)
  obtain ⟨d1, d2⟩ := andB h1
  refine wpAny_If (wpAny_isTrue_Compare1 (name_ok HP d1 h2 C G s m kn _ R fun h' tk as' kn' X S R' hX => ?_) rfl)
  refine Attribute_Name_ (name_ok HP d2 h3 C (G.mono S) _ m kn' _ R' fun h' tk as2 kn2 Y S2 R2 hY => ?_)
  have hgA : getA P ov name σ = some u ∨ handS u = false := by
    cases z : handS u with
    | false => exact .inr rfl
    | true => left; unfold getA; rw [h4]; show chk (P.atr q.2.1 name) _ = _; rw [h5]; show bnd (lookS name q.2.2.2) _ = _; rw [h6]; show chk (handS u) _ = _; rw [z]; rfl
  have hgA : getA P ov name σ = some u := hgA.resolve_right fun z => by (have hz9 := bnd_eq h8; clear h8; obtain ⟨us, z1, h8⟩ := hz9); rw [asTup_eq z1] at z; cases z
  refine getA_ok HP hgA hY C _ m kn2 _ R2 fun h' tk as3 kn3 U S3 R3 hU => ?_
  obtain ⟨a, rfl, ka⟩ := ker_of (fun _ => mem_im (c := c) (kn := kn3)) h7 (hX.mono (S2.trans S3))
  obtain ⟨b', rfl, kb⟩ := ker_of (fun _ => mem_im (c := c) (kn := kn3)) h8 hU
  have SS := (S.trans S2).trans S3
  obtain ⟨h9, _⟩ := andB h9
  obtain ⟨h9, _⟩ := andB h9
  have hlen : (valK ρ ps).length = (valK ρ qs).length := by
    have := congrArg List.length (intsEq_iff.mp h9)
    rw [List.length_map, List.length_map] at this
    rw [valK, valK, List.length_map, List.length_map, this]
  refine kerNe R3.N ka kb hlen (by have := C.hu; omega) (wpAny_truthy_bool ?_)
  by_cases e : valK ρ ps = valK ρ qs
  · rw [if_neg (by rw [decide_eq_false fun z => z e]; decide)]
    refine wpAny_execs_nil ?_
    cases f' with
    | ret v => cases h
    | next =>
      (have hz9 := chk_eq h; clear h; obtain ⟨h11, h⟩ := hz9)
      cases h
      obtain ⟨l1, l2⟩ := andB h11
      obtain ⟨a2, da, es, n, rfl, k4, k3, g1, g2, g3⟩ := inst_eq (s := { s with heap := h', toks := tk }) h4 (hY.mono S3) R3
      obtain ⟨U', g5, g6⟩ := (g3.2 name).1 u h6
      have es' : σ' = σ.set q.2.2.1 (.dict (putS name v q.2.2.2)) := by
        obtain ⟨l, os⟩ := σ'
        have l1 : l = σ.loc := fsEq_ok l1
        have l2 : os = (σ.set q.2.2.1 (.dict (putS name v q.2.2.2))).os := osEq_ok l2
        rw [l1, l2]; rfl
      have hv : IsV w ρ as3 v U' := ker_swap h7 h8 e g6
      refine ret h' tk as3 m kn3 _ SS ⟨R3.F, R3.N, es' ▸ R3.S.setTo k4 (by nofun) k3 g2 rfl (fun _ z _ => z) ⟨es, n, rfl, Nat.le_trans g3.1 (putS_len ..), fun z => ?_⟩⟩ rfl
      rw [lookS_putS]
      by_cases t : z = name
      · rw [if_pos t, t]; exact ⟨fun v' e => by cases e; exact ⟨U', g5, hv⟩, fun e => nomatch e⟩
      · rw [if_neg t]; exact g3.2 z
  · rw [if_pos (decide_eq_true e)]
    cases f' with
    | ret v => cases h
    | next =>
      (have hz9 := chk_eq h; clear h; obtain ⟨h11, h⟩ := hz9)
      cases h
      exact evB_ok H C h10 (G.mono SS) _ m kn3 Q R3 (ret.up SS)
theorem noSwap {value : PySem.Expr} (h : (!isComp value) = true) (t : Option PySem.Expr) (line : Nat) (env : Env) : swapsWith value t line env = pure false := by cases value <;> first | rfl | cases h
theorem asgN_ok (H : RcOk prog w ρ P.K p loose r) {x : Str} {xp pos : Pos} {value : PySem.Expr} {f : SF} (h : asgN r Γ x value σ = some (f, σ')) (hs : swapsWith value (some (.Name x xp)) pos.line env = pure false) (C : CxOk P.K p loose c Γ.d) (G : GOk w ρ c Γ env as) :
    TriS prog w ρ c as σ (exec (.Assign [.Name x xp] value pos) env) σ' fun as' x => IsF w ρ as' f x := by
  intro s m kn Q R ret
  obtain ⟨v, σ1, k1, h'⟩ := bn2_eq h
  (have hz9 := bnd_eq h'; clear h'; obtain ⟨σ2, k2, h'⟩ := hz9)
  cases h'
  refine wpAny_Assign_Name (H.e k1 C G s m kn _ R fun h' tk as' kn' y S R' hy => ?_) hs
  exact storeS_ok k2 hy C (G.mono S) _ m kn' _ R' fun h2 tk2 as2 m2 kn2 _ S2 R2 _ => ret h2 tk2 as2 m2 kn2 _ (S.trans S2) R2 rfl
theorem cellSwap {x : Str} {xp : Pos} {elt : PySem.Expr} {gs : List Comprehension} {scope : Scope} {cp : Pos} {line : Nat} (G : GOk w ρ c Γ env as) (h : isCell (kindS Γ x) = true) : swapsWith (.ListComp elt gs scope cp) (some (.Name x xp)) line env = pure false := by
  have hk : (env.kindOf x == some .local) = false := by rw [G.kindOf, beq_iff_eq.mp h]; rfl
  show (pure (env.blockKind == .function && env.kindOf x == some .local && xp.line == cp.line && !(scope.names.any fun y => match y with | (n, k) => n == x && (k == NameKind.local || k == NameKind.cell))) : Sem Bool) = pure false
  rw [hk, Bool.and_false, Bool.false_and, Bool.false_and]
theorem evAsg_ok (H : RcOk prog w ρ P.K p loose r) (HP : SPOk prog w ρ p loose P) {t value : PySem.Expr} {pos : Pos} {f : SF} (h : evAsg P r Γ t value σ = some (f, σ')) (C : CxOk P.K p loose c Γ.d) (G : GOk w ρ c Γ env as) :
    TriS prog w ρ c as σ (exec (.Assign [t] value pos) env) σ' fun as' x => IsF w ρ as' f x := by
  cases t with
  | Name x xp =>
    have plain : chk (!isComp value) (asgN r Γ x value σ) = some (f, σ') → TriS prog w ρ c as σ (exec (.Assign [.Name x xp] value pos) env) σ' fun as' x => IsF w ρ as' f x := fun h => by
      obtain ⟨k0, h'⟩ := chk_eq h
      exact asgN_ok H h' (noSwap k0 _ _ _) C G
    cases value with
    | ListComp elt gs scope cp =>
      replace h : (bif isCell (kindS Γ x) then asgN r Γ x (.ListComp elt gs scope cp) σ else bnd (compG gs) fun g => chk (g.2.2.isEmpty && swapB Γ scope x xp cp) (bn2 (compE P r Γ (fun s => !s.isTup) elt g.1 g.2.1 [] scope σ) fun v σ1 => some (SF.next, { σ1 with loc := putS x v σ1.loc }))) = some (f, σ') := h
      cases q : isCell (kindS Γ x) with
      | true => rw [q] at h; exact asgN_ok H h (cellSwap G q) C G
      | false =>
        rw [q, cond_false] at h
        (have hz9 := bnd_eq h; clear h; obtain ⟨g, h1, h⟩ := hz9)
        (have hz9 := chk_eq h; clear h; obtain ⟨h2, h⟩ := hz9)
        (have hz9 := bn2_eq h; clear h; obtain ⟨v, σ1, h3, h⟩ := hz9)
        cases h
        obtain ⟨z, iter, ifs⟩ := g
        obtain ⟨px, rfl⟩ := compG_eq h1
        obtain ⟨h2, h4⟩ := andB h2
        cases List.isEmpty_iff.mp h2
        exact compA_ok H HP C G h4 h3
    | _ => exact plain h
  | Attribute o name ap =>
    intro s m kn Q R ret
    (have hz9 := bn2_eq h; clear h; obtain ⟨v, σ1, k1, h⟩ := hz9)
    (have hz9 := bn2_eq h; clear h; obtain ⟨ov, σ2, k2, h⟩ := hz9)
    (have hz9 := bnd_eq h; clear h; obtain ⟨σ3, k3, h⟩ := hz9)
    cases h
    refine plainObj_wpAny_Assign_Attribute (H.e k1 C G s m kn _ R fun h' tk as' kn' y S R' hy => ?_) (by cases value <;> rfl)
    refine H.e k2 C (G.mono S) _ m kn' _ R' fun h2 tk2 as2 kn2 u S2 R2 hu => ?_
    exact setA_ok HP k3 hu (hy.mono S2) C _ m kn2 _ R2 fun h3 tk3 as3 kn3 _ S3 R3 _ => ret h3 tk3 as3 m kn3 _ ((S.trans S2).trans S3) R3 rfl
  | Subscript o i ip =>
    intro s m kn Q R ret
    (have hz9 := bn2_eq h; clear h; obtain ⟨v, σ1, k1, h⟩ := hz9)
    (have hz9 := bn2_eq h; clear h; obtain ⟨ov, σ2, k2, h⟩ := hz9)
    (have hz9 := bn2_eq h; clear h; obtain ⟨iv, σ3, k3, h⟩ := hz9)
    (have hz9 := bnd_eq h; clear h; obtain ⟨σ4, k4, h⟩ := hz9)
    cases h
    refine wpAny_Assign_Subscript (H.e k1 C G s m kn _ R fun h' tk as' kn' y S R' hy => ?_) (by cases value <;> rfl)
    refine H.e k2 C (G.mono S) _ m kn' _ R' fun h2 tk2 as2 kn2 u S2 R2 hu => ?_
    refine H.e k3 C (G.mono (S.trans S2)) _ m kn2 _ R2 fun h3 tk3 as3 kn3 q S3 R3 hq => ?_
    exact setI_ok k4 (hu.mono S3) hq (hy.mono (S2.trans S3)) _ m kn3 _ R3 fun h4 tk4 as4 kn4 _ S4 R4 _ => ret h4 tk4 as4 m kn4 _ (((S.trans S2).trans S3).trans S4) R4 rfl
  | _ => cases h
theorem isNe_eq {op : CmpOp} (h : isNe op = true) : op = .NotEq := by cases op <;> first | rfl | cases h
theorem ifPat_eq {t : PySem.Expr} {q : Str × Str × Str} (h : ifPat t = some q) : ∃ p1 p2 p3 p4, t = .Compare (.Name q.1 p1) [.NotEq] [.Attribute (.Name q.2.1 p2) q.2.2 p3] p4 := by
  (have hz9 := bnd_eq h; clear h; obtain ⟨z, h0, h⟩ := hz9)
  (have hz9 := bnd_eq h; clear h; obtain ⟨op, h1, h⟩ := hz9)
  (have hz9 := chk_eq h; clear h; obtain ⟨h2, h⟩ := hz9)
  (have hz9 := bnd_eq h; clear h; obtain ⟨x, h3, h⟩ := hz9)
  (have hz9 := bnd_eq h; clear h; obtain ⟨r, h4, h⟩ := hz9)
  (have hz9 := bnd_eq h; clear h; obtain ⟨u, h5, h⟩ := hz9)
  (have hz9 := bnd_eq h; clear h; obtain ⟨y, h6, h⟩ := hz9)
  cases h
  obtain ⟨p4, e0⟩ := vCmp_eq h0
  obtain ⟨p1, e1⟩ := asName_eq h3
  obtain ⟨p3, e3⟩ := vAttr_eq h5
  obtain ⟨p2, e2⟩ := asName_eq h6
  exact ⟨p1, p2, p3, p4, by rw [e0, e1, one_eq h1, one_eq h4, isNe_eq h2, e3, e2]⟩
theorem evS_ok (H : RcOk prog w ρ P.K p loose r) (HP : SPOk prog w ρ p loose P) {st : Stmt} {f : SF} (h : evS P r Γ st σ = some (f, σ')) (C : CxOk P.K p loose c Γ.d) (G : GOk w ρ c Γ env as) :
    TriS prog w ρ c as σ (exec st env) σ' fun as' x => IsF w ρ as' f x := by
  intro s m kn Q R ret
  cases st with
  | Assign ts value pos =>
    (have hz9 := bnd_eq h; clear h; obtain ⟨t, h1, h⟩ := hz9)
    cases one_eq h1
    exact evAsg_ok H HP h C G s m kn Q R ret
  | Expr e pos =>
    (have hz9 := chk_eq h; clear h; obtain ⟨k0, h⟩ := hz9)
    (have hz9 := bn2_eq h; clear h; obtain ⟨v, σ1, k1, h⟩ := hz9)
    cases h
    refine wpAny_Expr_any (H.e k1 C G s m kn _ R fun h' tk as' kn' y S R' hy => ret h' tk as' m kn' _ S R' rfl) (by unfold interactive; rw [G.kind]; rfl) ?_
    cases e <;> first | rfl | cases k0
  | If t b o pos =>
    cases q : evIf P r Γ t b o σ with
    | some z =>
      have h : (match evIf P r Γ t b o σ with | some q => some q | none => chk o.isEmpty (bnd (ifPat t) fun q => ifNe P r Γ q.1 q.2.1 q.2.2 b σ)) = some (f, σ') := h
      rw [q] at h
      cases h
      obtain ⟨u, σ1, k1, h'⟩ := bn2_eq q
      refine wpAny_If (H.t k1 C G s m kn _ R fun h' tk as' kn' x S R' hx => ?_)
      subst hx
      cases x with
      | true => rw [if_pos rfl]; exact evB_ok H C h' (G.mono S) _ m kn' Q R' (ret.up S)
      | false => rw [if_neg (by decide)]; exact evB_ok H C h' (G.mono S) _ m kn' Q R' (ret.up S)
    | none =>
      have h : (match evIf P r Γ t b o σ with | some q => some q | none => chk o.isEmpty (bnd (ifPat t) fun q => ifNe P r Γ q.1 q.2.1 q.2.2 b σ)) = some (f, σ') := h
      rw [q] at h
      obtain ⟨h1, h'⟩ := chk_eq h
      (have hz9 := bnd_eq h'; clear h'; obtain ⟨q2, h2, h'⟩ := hz9)
      obtain ⟨p1, p2, p3, p4, rfl⟩ := ifPat_eq h2
      cases List.isEmpty_iff.mp h1
      exact ifNe_ok H HP h' C G s m kn Q R ret
  | For target iter body orelse pos =>
    (have hz9 := chk_eq h; clear h; obtain ⟨k0, h⟩ := hz9)
    (have hz9 := bn2_eq h; clear h; obtain ⟨src, σ1, k3, h⟩ := hz9)
    (have hz9 := chk_eq h; clear h; obtain ⟨k2, h⟩ := hz9)
    (have hz9 := bn2_eq h; clear h; obtain ⟨f', σ2, k4, h⟩ := hz9)
    (have hz9 := bnd_eq h; clear h; obtain ⟨σ3, k5, h⟩ := hz9)
    cases h
    obtain ⟨k0, k6⟩ := andB k0
    obtain ⟨k0, k1⟩ := andB k0
    cases List.isEmpty_iff.mp k0
    have hown := isNone_eq k6
    have hl : env.locals = c.L := by rw [G.own0 hown]; exact C.hl
    refine For_turns (by rw [hl]; exact R.F) (srcE_ok H HP C G k3 s m kn _ R fun h' tk as' kn' xv S R' hs => ?_) (notSet_ok k1 env) PassesOwn.never
    exact loop_ok (s := { s with heap := h', toks := tk }) H C (G.mono S) hown R' hs k2 k4 k5 (ret.up S)
  | While t b orelse pos =>
    (have hz9 := chk_eq h; clear h; obtain ⟨k0, h⟩ := hz9)
    cases List.isEmpty_iff.mp k0
    exact whl_start 0 (H.w h C G s m kn Q R ret)
  | Return e pos =>
    (have hz9 := bnd_eq h; clear h; obtain ⟨e', k0, h⟩ := hz9)
    (have hz9 := bn2_eq h; clear h; obtain ⟨v, σ1, k1, h⟩ := hz9)
    cases h
    cases k0
    exact wpAny_Return_some (H.e k1 C G s m kn _ R fun h' tk as' kn' y S R' hy => ret h' tk as' m kn' _ S R' ⟨y, rfl, hy⟩)
  | Try body hs orelse final pos =>
    (have hz9 := chk_eq h; clear h; obtain ⟨k0, h⟩ := hz9)
    (have hz9 := bn2_eq h; clear h; obtain ⟨f', σ1, k1, h⟩ := hz9)
    obtain ⟨k0, k4⟩ := andB k0
    obtain ⟨k0, k3⟩ := andB k0
    cases List.isEmpty_iff.mp k3
    cases List.isEmpty_iff.mp k4
    cases f' with
    | ret v => cases h
    | next =>
      cases h
      cases hs with
      | nil => cases k0
      | cons h0 hs =>
        refine wpAny_Try_except (wpAny_mono (evB_ok H C k1 G s m kn (fun f s₁ => match f with | .next => wpAny (model prog w) c.A (execs [] env) Q NoE s₁ | f => Q f s₁) R fun h' tk as' m' kn' x S R' hx => ?_) (fun _ _ q => q) fun _ _ e => e.elim)
        cases hx
        exact wpAny_execs_nil (ret h' tk as' m' kn' _ S R' rfl)
  | _ => cases h
theorem evW_ok (H : RcOk prog w ρ P.K p loose r) {t : PySem.Expr} {b : List Stmt} {f : SF} (h : evW r Γ t b σ = some (f, σ')) (C : CxOk P.K p loose c Γ.d) (G : GOk w ρ c Γ env as) (s : Shared) (m : Str → Option Value) (kn : List (Addr × Obj)) (Q : Flow → Shared → Prop) (R : Rep prog w ρ c s.heap σ as m kn)
    (ret : AfterS prog w ρ c as s σ' (fun as' x => IsF w ρ as' f x) Q) : WhlRest prog w c.A NoE env t b [] Q 0 s := by
  obtain ⟨u, σ1, k1, h'⟩ := bn2_eq h
  clear h
  refine whl_turn (k := 0) PassesOwn.never (H.t k1 C G s m kn _ R fun h' tk as' kn' x S R' hx => ?_)
  subst hx
  cases x with
  | false => cases h'; exact WhlIf.no rfl (wpAny_execs_nil (ret h' tk as' m kn' _ S R' rfl))
  | true =>
    rw [cond_true] at h'
    obtain ⟨g, σ2, k3, k4⟩ := bn2_eq h'
    refine WhlIf.yes rfl (evB_ok H C k3 (G.mono S) _ m kn' _ R' fun h2 tk2 as2 m2 kn2 fl S2 R2 hf => ?_)
    cases g with
    | next => cases hf; exact H.w k4 C (G.mono (S.trans S2)) _ m2 kn2 Q R2 (ret.up (S.trans S2))
    | ret v => cases k4; obtain ⟨y, rfl, hy⟩ := hf; exact ret h2 tk2 as2 m2 kn2 _ (S.trans S2) R2 ⟨y, rfl, hy⟩
theorem evN_ok (HP : SPOk prog w ρ p loose P) : ∀ n, RcOk prog w ρ P.K p loose (evN P n)
  | 0 => ⟨fun h => (nomatch h), fun h => (nomatch h), fun h => (nomatch h), fun h => (nomatch h)⟩
  | n + 1 =>
    have ih := evN_ok HP n
    ⟨fun h _ _ _ C G => evE_ok ih HP h C G, fun h _ _ _ C G => evT_ok ih h C G, fun h _ _ _ C G => evS_ok ih HP h C G, fun h _ _ _ C G => evW_ok ih h C G⟩
end
end Mine
end
section
open PySem PySem.W PyProof.Rows
namespace Mine
structure DT where
  goes : List (List (List Nat) × List (List Nat) × Bool)
  sh : List (List (List Nat) × Bool)
noncomputable def look2 (a b : List (List Nat)) : List (List (List Nat) × List (List Nat) × Bool) → Option Bool
  | [] => none
  | q :: r => bif meqs a q.1 && meqs b q.2.1 then some q.2.2 else look2 a b r
noncomputable def look1 (a : List (List Nat)) : List (List (List Nat) × Bool) → Option Bool
  | [] => none
  | q :: r => bif meqs a q.1 then some q.2 else look1 a r
noncomputable def kerS (k : Nat) : List (List Nat) → List SV
  | [] => []
  | e :: r => .tup [.int (10 + 3 * (k : Int)), .msk e] :: kerS (k + 1) r
noncomputable def setsS (v : SV) (σ : SS) : Option (List (List Nat)) := bnd (σ.list v) fun q => allOf asSet q.2
noncomputable def dec2 (t : List (List (List Nat) × List (List Nat) × Bool)) (a b : List (List Nat)) (σ : SS) : Option (SV × SS) := chk (Nat.beq a.length b.length && Nat.ble a.length 8) (bnd (look2 a b t) fun d => some (.bool d, σ))
noncomputable def prS (T : DT) (f : Addr) (vs : List SV) (σ : SS) : Option (SV × SS) :=
  match vs with
  | [x] => bif Nat.beq f 321 then bnd (setsS x σ) fun ms => chk (Nat.ble ms.length 8) (some (.tup (kerS 0 ms), σ))
    else bif Nat.beq f 316 then bnd (setsS x σ) fun ms => chk (Nat.ble ms.length 8) (bnd (look1 ms T.sh) fun d => some (.bool d, σ)) else none
  | [x, y] => bif Nat.beq f 127 then bnd (asKer x) fun ps => bnd (asKer y) fun qs => dec2 T.goes (ps.map (·.2)) (qs.map (·.2)) σ
    else bif Nat.beq f 309 then bnd (setsS x σ) fun ms => bnd (setsS y σ) fun ns => dec2 T.goes ms ns σ else none
  | _ => none
end Mine
end
section
open PySem PySem.W PyProof.Rows
namespace Mine
section
variable {w : World} {dp un : Nat} {gd : Option (List Code)} {cn : Str} {cs : Scope} {a : Addr} {ccd : Value} {cl : List (Str × Addr)} {outer : List Env} {A₀ : Around} {base h₀ : Heap} {L : Addr} {m : Str → Option Value} {news : List (Addr × Obj)} {s : Shared}
  {mean : ExcName → Option Value} {mg mb : Str → Option Value} {Q E : Value → Shared → Prop}
section
theorem shares_spec {v : Value} {ms : List Nat} (X : (KH w.params).In h₀) (B : Below A₀ base outer h₀) (F : Fr h₀ L s.heap m) (N : News h₀ L s.heap news) (T : Top VH loose mean mg mb h₀) (hk : cs.kind = .function)
    (hdp : dp + 10 < recursionLimit) (hun : un + 80 < cLine) (hV : SetsAt (byT w) news v ms) (hms : ms.length ≤ 8)
    (ret : ∀ tl h' tk', Fr h₀ L h' m → News h₀ L h' (tl ++ news) → Q (.bool (sharesB ms)) { s with heap := h', toks := tk' }) :
    wpAny (model PySem.Challenge.rw_pq0572_01.row.prog w) (ktrTop dp un gd cn cs L a ccd cl outer) (call (.ref 316) [v]) Q E s := by
  revert X; k_fill; intro X
  obtain ⟨va, its, n, rfl, hVm, hVz, -⟩ := id hV
  refine wpAny_call ?_
  k_dflt ktr_enter
  rename Fr _ _ _ _ => F1
  replace F1 := fr_args1 (Str.ofString "sets") F1
  generalize s.toks + _ = tk0
  (repeat' ((first | (k_unfold; (try dsimp only)) | ((fail_if_success (with_reducible show wpAny _ _ (pyIter _) _ _ _)); (fail_if_success (with_reducible show LCg.CompSrc _ _ _ _ _ _ _ _ _ _ _ _ _ _)); (fail_if_success (with_reducible show LCt.CompSrcT _ _ _ _ _ _ _ _ _ _ _ _ _ _ _)); first | with_reducible ((k_here; (with_reducible show wpAny _ _ (eval (Expr.Name _ _) (compEnvC _ _ _ _)) _ _ _); k_dflt (refine' lcf_cell ?zq10_N ?zq10_c ?zq10_m ?zq10_d ?_ ?zq10_a ?zq10_b; (case zq10_a => rfl); (case zq10_b => rfl); (case zq10_N => k_asm); (case zq10_c => rfl); (case zq10_m => k_mem); (case zq10_d => k_asm); k_whole))) | with_reducible ((k_here; (with_reducible show wpAny _ _ (subscriptTail _ _ (Value.ref _) (Value.int _ _)) _ _ _); (with_unfolding_all refine' itemK_N ?zq11_N ?zq11_V ?zq11_s0 ?zq11_lo ?zq11_hi ?zq11_sm ?_ ?zq11_hs; (case zq11_N => assumption); (case zq11_V => assumption); (case zq11_s0 => ((intro p hp; repeat (first | exact hp | refine List.mem_cons_of_mem _ ?_)))); (case zq11_lo => first | assumption | omega); (case zq11_hi => first | assumption | omega); (case zq11_sm => first | assumption | omega); (case zq11_hs => with_unfolding_all rfl); k_whole); intro b7_z x7_z y7_z n7_z hm7_z)) | with_reducible ((k_here; (with_reducible show wpAny _ _ (call (Value.builtin "len") [Value.ref _]) _ _ _); (refine' lenK_N ?zq12_N ?zq12_V ?zq12_s0 ?zq12_sm ?_; (case zq12_N => assumption); (case zq12_V => assumption); (case zq12_s0 => ((intro p hp; repeat (first | exact hp | refine List.mem_cons_of_mem _ ?_)))); (case zq12_sm => first | assumption | omega); k_whole))) | ((with_reducible show wpAny _ _ (call (Value.type "range") _) _ _ _); with_reducible ((k_here; first   | ((refine' range1_N ?zq13_F ?zq13_N ?_; (case zq13_F => assumption); (case zq13_N => assumption); k_whole); intro hq_z r7_z t71_z t73_z tk7_z hR7_z Fq_z Nq_z)   | ((refine' range2_N ?zq13_F ?zq13_N ?_; (case zq13_F => assumption); (case zq13_N => assumption); k_whole); intro hq_z r7_z t73_z tk7_z hR7_z Fq_z Nq_z)))) | with_reducible ((k_here; (with_reducible show wpAny _ _ (call (Value.builtin "len") [Value.ref _]) _ _ _); (refine' len_N ?zq14_N ?zq14_V ?zq14_s0 ?zq14_sm ?_; (case zq14_N => assumption); (case zq14_V => assumption); (case zq14_s0 => ((intro p hp; repeat (first | exact hp | refine List.mem_cons_of_mem _ ?_)))); (case zq14_sm => first | assumption | omega); k_whole))) | ((with_reducible show wpAny _ _ (compareOp CmpOp.NotEq (Value.ref _) (Value.ref _)) _ _ _); with_reducible ((k_here; (refine' ne_N ?zq15_N ?zq15_a ?zq15_Ma ?zq15_b ?zq15_Mb ?zq15_u ?_; (case zq15_N => assumption); (case zq15_a => exact List.mem_cons_of_mem _ (List.mem_cons_self)); (case zq15_Ma => assumption); (case zq15_b => exact List.mem_cons_self); (case zq15_Mb => assumption); (case zq15_u => (simp only [units_in1, units_deeper]; omega)); k_whole)))) | ((with_reducible show wpAny _ _ (call (Value.type "set") []) _ _ _); with_reducible ((k_here; (refine' set0_N ?zq16_F ?zq16_N ?_; (case zq16_F => assumption); (case zq16_N => assumption); k_whole); intro hq_z c7_z o7_z Fq_z Nq_z hI7_z hne7_z))) | ((with_reducible show wpAny _ _ (binaryOp Operator.BitAnd (Value.ref _) (Value.ref _)) _ _ _); with_reducible ((k_here; (refine' and_N ?zq17_F ?zq17_N ?zq17_a ?zq17_s0 ?zq17_Ma ?zq17_b ?zq17_s1 ?zq17_Mb ?_; (case zq17_F => assumption); (case zq17_N => assumption); (case zq17_a => assumption); (case zq17_s0 => ((intro p hp; repeat (first | exact hp | refine List.mem_cons_of_mem _ ?_)))); (case zq17_Ma => assumption); (case zq17_b => assumption); (case zq17_s1 => ((intro p hp; repeat (first | exact hp | refine List.mem_cons_of_mem _ ?_)))); (case zq17_Mb => assumption); k_whole); intro hq_z c7_z o7_z Fq_z Nq_z hI7_z hne7_z))) | with_reducible ((k_here; (with_reducible show wpAny _ _ (subscriptTail _ _ (Value.ref _) (Value.int _ _)) _ _ _); (with_unfolding_all refine' item_N ?zq18_N ?zq18_V ?zq18_s0 ?zq18_lo ?zq18_hi ?zq18_sm ?_ ?zq18_hs; (case zq18_N => assumption); (case zq18_V => assumption); (case zq18_s0 => ((intro p hp; repeat (first | exact hp | refine List.mem_cons_of_mem _ ?_)))); (case zq18_lo => first | assumption | omega); (case zq18_hi => first | assumption | omega); (case zq18_sm => first | assumption | omega); (case zq18_hs => with_unfolding_all rfl); k_whole); intro a7_z o7_z hm7_z hI7_z)) | walk1 | (dsimp only; first | with_reducible ((k_here; (with_reducible show wpAny _ _ (eval (Expr.Name _ _) (compEnvC _ _ _ _)) _ _ _); k_dflt (refine' lcf_cell ?zq10_N ?zq10_c ?zq10_m ?zq10_d ?_ ?zq10_a ?zq10_b; (case zq10_a => rfl); (case zq10_b => rfl); (case zq10_N => k_asm); (case zq10_c => rfl); (case zq10_m => k_mem); (case zq10_d => k_asm); k_whole))) | with_reducible ((k_here; (with_reducible show wpAny _ _ (subscriptTail _ _ (Value.ref _) (Value.int _ _)) _ _ _); (with_unfolding_all refine' itemK_N ?zq11_N ?zq11_V ?zq11_s0 ?zq11_lo ?zq11_hi ?zq11_sm ?_ ?zq11_hs; (case zq11_N => assumption); (case zq11_V => assumption); (case zq11_s0 => ((intro p hp; repeat (first | exact hp | refine List.mem_cons_of_mem _ ?_)))); (case zq11_lo => first | assumption | omega); (case zq11_hi => first | assumption | omega); (case zq11_sm => first | assumption | omega); (case zq11_hs => with_unfolding_all rfl); k_whole); intro b7_z x7_z y7_z n7_z hm7_z)) | with_reducible ((k_here; (with_reducible show wpAny _ _ (call (Value.builtin "len") [Value.ref _]) _ _ _); (refine' lenK_N ?zq12_N ?zq12_V ?zq12_s0 ?zq12_sm ?_; (case zq12_N => assumption); (case zq12_V => assumption); (case zq12_s0 => ((intro p hp; repeat (first | exact hp | refine List.mem_cons_of_mem _ ?_)))); (case zq12_sm => first | assumption | omega); k_whole))) | ((with_reducible show wpAny _ _ (call (Value.type "range") _) _ _ _); with_reducible ((k_here; first   | ((refine' range1_N ?zq13_F ?zq13_N ?_; (case zq13_F => assumption); (case zq13_N => assumption); k_whole); intro hq_z r7_z t71_z t73_z tk7_z hR7_z Fq_z Nq_z)   | ((refine' range2_N ?zq13_F ?zq13_N ?_; (case zq13_F => assumption); (case zq13_N => assumption); k_whole); intro hq_z r7_z t73_z tk7_z hR7_z Fq_z Nq_z)))) | with_reducible ((k_here; (with_reducible show wpAny _ _ (call (Value.builtin "len") [Value.ref _]) _ _ _); (refine' len_N ?zq14_N ?zq14_V ?zq14_s0 ?zq14_sm ?_; (case zq14_N => assumption); (case zq14_V => assumption); (case zq14_s0 => ((intro p hp; repeat (first | exact hp | refine List.mem_cons_of_mem _ ?_)))); (case zq14_sm => first | assumption | omega); k_whole))) | ((with_reducible show wpAny _ _ (compareOp CmpOp.NotEq (Value.ref _) (Value.ref _)) _ _ _); with_reducible ((k_here; (refine' ne_N ?zq15_N ?zq15_a ?zq15_Ma ?zq15_b ?zq15_Mb ?zq15_u ?_; (case zq15_N => assumption); (case zq15_a => exact List.mem_cons_of_mem _ (List.mem_cons_self)); (case zq15_Ma => assumption); (case zq15_b => exact List.mem_cons_self); (case zq15_Mb => assumption); (case zq15_u => (simp only [units_in1, units_deeper]; omega)); k_whole)))) | ((with_reducible show wpAny _ _ (call (Value.type "set") []) _ _ _); with_reducible ((k_here; (refine' set0_N ?zq16_F ?zq16_N ?_; (case zq16_F => assumption); (case zq16_N => assumption); k_whole); intro hq_z c7_z o7_z Fq_z Nq_z hI7_z hne7_z))) | ((with_reducible show wpAny _ _ (binaryOp Operator.BitAnd (Value.ref _) (Value.ref _)) _ _ _); with_reducible ((k_here; (refine' and_N ?zq17_F ?zq17_N ?zq17_a ?zq17_s0 ?zq17_Ma ?zq17_b ?zq17_s1 ?zq17_Mb ?_; (case zq17_F => assumption); (case zq17_N => assumption); (case zq17_a => assumption); (case zq17_s0 => ((intro p hp; repeat (first | exact hp | refine List.mem_cons_of_mem _ ?_)))); (case zq17_Ma => assumption); (case zq17_b => assumption); (case zq17_s1 => ((intro p hp; repeat (first | exact hp | refine List.mem_cons_of_mem _ ?_)))); (case zq17_Mb => assumption); k_whole); intro hq_z c7_z o7_z Fq_z Nq_z hI7_z hne7_z))) | with_reducible ((k_here; (with_reducible show wpAny _ _ (subscriptTail _ _ (Value.ref _) (Value.int _ _)) _ _ _); (with_unfolding_all refine' item_N ?zq18_N ?zq18_V ?zq18_s0 ?zq18_lo ?zq18_hi ?zq18_sm ?_ ?zq18_hs; (case zq18_N => assumption); (case zq18_V => assumption); (case zq18_s0 => ((intro p hp; repeat (first | exact hp | refine List.mem_cons_of_mem _ ?_)))); (case zq18_lo => first | assumption | omega); (case zq18_hi => first | assumption | omega); (case zq18_sm => first | assumption | omega); (case zq18_hs => with_unfolding_all rfl); k_whole); intro a7_z o7_z hm7_z hI7_z)) | walk1)))))
  refine rangeG (stored := [Str.ofString "j"]) (G := fun i led => led = news ∧ Apart ms i) rfl (by assumption) (small_one (by omega) (by omega) (by omega) (by omega)) (n := ms.length) (by rw [rangeSize_one]; split <;> omega) (by assumption) (by assumption) ⟨rfl, fun i' hi' => absurd hi' (Nat.not_lt_zero _)⟩ ?turn ?done
  case turn =>
    rintro i t u h2 tk2 I o led hi ⟨eL, hP⟩ hoff F2 N2
    subst led
    (repeat' ((first | (k_unfold; (try dsimp only)) | ((fail_if_success (with_reducible show wpAny _ _ (pyIter _) _ _ _)); (fail_if_success (with_reducible show LCg.CompSrc _ _ _ _ _ _ _ _ _ _ _ _ _ _)); (fail_if_success (with_reducible show LCt.CompSrcT _ _ _ _ _ _ _ _ _ _ _ _ _ _ _)); first | with_reducible ((k_here; (with_reducible show wpAny _ _ (eval (Expr.Name _ _) (compEnvC _ _ _ _)) _ _ _); k_dflt (refine' lcf_cell ?zq10_N ?zq10_c ?zq10_m ?zq10_d ?_ ?zq10_a ?zq10_b; (case zq10_a => rfl); (case zq10_b => rfl); (case zq10_N => k_asm); (case zq10_c => rfl); (case zq10_m => k_mem); (case zq10_d => k_asm); k_whole))) | with_reducible ((k_here; (with_reducible show wpAny _ _ (subscriptTail _ _ (Value.ref _) (Value.int _ _)) _ _ _); (with_unfolding_all refine' itemK_N ?zq11_N ?zq11_V ?zq11_s0 ?zq11_lo ?zq11_hi ?zq11_sm ?_ ?zq11_hs; (case zq11_N => assumption); (case zq11_V => assumption); (case zq11_s0 => ((intro p hp; repeat (first | exact hp | refine List.mem_cons_of_mem _ ?_)))); (case zq11_lo => first | assumption | omega); (case zq11_hi => first | assumption | omega); (case zq11_sm => first | assumption | omega); (case zq11_hs => with_unfolding_all rfl); k_whole); intro b7_z x7_z y7_z n7_z hm7_z)) | with_reducible ((k_here; (with_reducible show wpAny _ _ (call (Value.builtin "len") [Value.ref _]) _ _ _); (refine' lenK_N ?zq12_N ?zq12_V ?zq12_s0 ?zq12_sm ?_; (case zq12_N => assumption); (case zq12_V => assumption); (case zq12_s0 => ((intro p hp; repeat (first | exact hp | refine List.mem_cons_of_mem _ ?_)))); (case zq12_sm => first | assumption | omega); k_whole))) | ((with_reducible show wpAny _ _ (call (Value.type "range") _) _ _ _); with_reducible ((k_here; first   | ((refine' range1_N ?zq13_F ?zq13_N ?_; (case zq13_F => assumption); (case zq13_N => assumption); k_whole); intro hq_z r7_z t71_z t73_z tk7_z hR7_z Fq_z Nq_z)   | ((refine' range2_N ?zq13_F ?zq13_N ?_; (case zq13_F => assumption); (case zq13_N => assumption); k_whole); intro hq_z r7_z t73_z tk7_z hR7_z Fq_z Nq_z)))) | with_reducible ((k_here; (with_reducible show wpAny _ _ (call (Value.builtin "len") [Value.ref _]) _ _ _); (refine' len_N ?zq14_N ?zq14_V ?zq14_s0 ?zq14_sm ?_; (case zq14_N => assumption); (case zq14_V => assumption); (case zq14_s0 => ((intro p hp; repeat (first | exact hp | refine List.mem_cons_of_mem _ ?_)))); (case zq14_sm => first | assumption | omega); k_whole))) | ((with_reducible show wpAny _ _ (compareOp CmpOp.NotEq (Value.ref _) (Value.ref _)) _ _ _); with_reducible ((k_here; (refine' ne_N ?zq15_N ?zq15_a ?zq15_Ma ?zq15_b ?zq15_Mb ?zq15_u ?_; (case zq15_N => assumption); (case zq15_a => exact List.mem_cons_of_mem _ (List.mem_cons_self)); (case zq15_Ma => assumption); (case zq15_b => exact List.mem_cons_self); (case zq15_Mb => assumption); (case zq15_u => (simp only [units_in1, units_deeper]; omega)); k_whole)))) | ((with_reducible show wpAny _ _ (call (Value.type "set") []) _ _ _); with_reducible ((k_here; (refine' set0_N ?zq16_F ?zq16_N ?_; (case zq16_F => assumption); (case zq16_N => assumption); k_whole); intro hq_z c7_z o7_z Fq_z Nq_z hI7_z hne7_z))) | ((with_reducible show wpAny _ _ (binaryOp Operator.BitAnd (Value.ref _) (Value.ref _)) _ _ _); with_reducible ((k_here; (refine' and_N ?zq17_F ?zq17_N ?zq17_a ?zq17_s0 ?zq17_Ma ?zq17_b ?zq17_s1 ?zq17_Mb ?_; (case zq17_F => assumption); (case zq17_N => assumption); (case zq17_a => assumption); (case zq17_s0 => ((intro p hp; repeat (first | exact hp | refine List.mem_cons_of_mem _ ?_)))); (case zq17_Ma => assumption); (case zq17_b => assumption); (case zq17_s1 => ((intro p hp; repeat (first | exact hp | refine List.mem_cons_of_mem _ ?_)))); (case zq17_Mb => assumption); k_whole); intro hq_z c7_z o7_z Fq_z Nq_z hI7_z hne7_z))) | with_reducible ((k_here; (with_reducible show wpAny _ _ (subscriptTail _ _ (Value.ref _) (Value.int _ _)) _ _ _); (with_unfolding_all refine' item_N ?zq18_N ?zq18_V ?zq18_s0 ?zq18_lo ?zq18_hi ?zq18_sm ?_ ?zq18_hs; (case zq18_N => assumption); (case zq18_V => assumption); (case zq18_s0 => ((intro p hp; repeat (first | exact hp | refine List.mem_cons_of_mem _ ?_)))); (case zq18_lo => first | assumption | omega); (case zq18_hi => first | assumption | omega); (case zq18_sm => first | assumption | omega); (case zq18_hs => with_unfolding_all rfl); k_whole); intro a7_z o7_z hm7_z hI7_z)) | walk1 | (dsimp only; first | with_reducible ((k_here; (with_reducible show wpAny _ _ (eval (Expr.Name _ _) (compEnvC _ _ _ _)) _ _ _); k_dflt (refine' lcf_cell ?zq10_N ?zq10_c ?zq10_m ?zq10_d ?_ ?zq10_a ?zq10_b; (case zq10_a => rfl); (case zq10_b => rfl); (case zq10_N => k_asm); (case zq10_c => rfl); (case zq10_m => k_mem); (case zq10_d => k_asm); k_whole))) | with_reducible ((k_here; (with_reducible show wpAny _ _ (subscriptTail _ _ (Value.ref _) (Value.int _ _)) _ _ _); (with_unfolding_all refine' itemK_N ?zq11_N ?zq11_V ?zq11_s0 ?zq11_lo ?zq11_hi ?zq11_sm ?_ ?zq11_hs; (case zq11_N => assumption); (case zq11_V => assumption); (case zq11_s0 => ((intro p hp; repeat (first | exact hp | refine List.mem_cons_of_mem _ ?_)))); (case zq11_lo => first | assumption | omega); (case zq11_hi => first | assumption | omega); (case zq11_sm => first | assumption | omega); (case zq11_hs => with_unfolding_all rfl); k_whole); intro b7_z x7_z y7_z n7_z hm7_z)) | with_reducible ((k_here; (with_reducible show wpAny _ _ (call (Value.builtin "len") [Value.ref _]) _ _ _); (refine' lenK_N ?zq12_N ?zq12_V ?zq12_s0 ?zq12_sm ?_; (case zq12_N => assumption); (case zq12_V => assumption); (case zq12_s0 => ((intro p hp; repeat (first | exact hp | refine List.mem_cons_of_mem _ ?_)))); (case zq12_sm => first | assumption | omega); k_whole))) | ((with_reducible show wpAny _ _ (call (Value.type "range") _) _ _ _); with_reducible ((k_here; first   | ((refine' range1_N ?zq13_F ?zq13_N ?_; (case zq13_F => assumption); (case zq13_N => assumption); k_whole); intro hq_z r7_z t71_z t73_z tk7_z hR7_z Fq_z Nq_z)   | ((refine' range2_N ?zq13_F ?zq13_N ?_; (case zq13_F => assumption); (case zq13_N => assumption); k_whole); intro hq_z r7_z t73_z tk7_z hR7_z Fq_z Nq_z)))) | with_reducible ((k_here; (with_reducible show wpAny _ _ (call (Value.builtin "len") [Value.ref _]) _ _ _); (refine' len_N ?zq14_N ?zq14_V ?zq14_s0 ?zq14_sm ?_; (case zq14_N => assumption); (case zq14_V => assumption); (case zq14_s0 => ((intro p hp; repeat (first | exact hp | refine List.mem_cons_of_mem _ ?_)))); (case zq14_sm => first | assumption | omega); k_whole))) | ((with_reducible show wpAny _ _ (compareOp CmpOp.NotEq (Value.ref _) (Value.ref _)) _ _ _); with_reducible ((k_here; (refine' ne_N ?zq15_N ?zq15_a ?zq15_Ma ?zq15_b ?zq15_Mb ?zq15_u ?_; (case zq15_N => assumption); (case zq15_a => exact List.mem_cons_of_mem _ (List.mem_cons_self)); (case zq15_Ma => assumption); (case zq15_b => exact List.mem_cons_self); (case zq15_Mb => assumption); (case zq15_u => (simp only [units_in1, units_deeper]; omega)); k_whole)))) | ((with_reducible show wpAny _ _ (call (Value.type "set") []) _ _ _); with_reducible ((k_here; (refine' set0_N ?zq16_F ?zq16_N ?_; (case zq16_F => assumption); (case zq16_N => assumption); k_whole); intro hq_z c7_z o7_z Fq_z Nq_z hI7_z hne7_z))) | ((with_reducible show wpAny _ _ (binaryOp Operator.BitAnd (Value.ref _) (Value.ref _)) _ _ _); with_reducible ((k_here; (refine' and_N ?zq17_F ?zq17_N ?zq17_a ?zq17_s0 ?zq17_Ma ?zq17_b ?zq17_s1 ?zq17_Mb ?_; (case zq17_F => assumption); (case zq17_N => assumption); (case zq17_a => assumption); (case zq17_s0 => ((intro p hp; repeat (first | exact hp | refine List.mem_cons_of_mem _ ?_)))); (case zq17_Ma => assumption); (case zq17_b => assumption); (case zq17_s1 => ((intro p hp; repeat (first | exact hp | refine List.mem_cons_of_mem _ ?_)))); (case zq17_Mb => assumption); k_whole); intro hq_z c7_z o7_z Fq_z Nq_z hI7_z hne7_z))) | with_reducible ((k_here; (with_reducible show wpAny _ _ (subscriptTail _ _ (Value.ref _) (Value.int _ _)) _ _ _); (with_unfolding_all refine' item_N ?zq18_N ?zq18_V ?zq18_s0 ?zq18_lo ?zq18_hi ?zq18_sm ?_ ?zq18_hs; (case zq18_N => assumption); (case zq18_V => assumption); (case zq18_s0 => ((intro p hp; repeat (first | exact hp | refine List.mem_cons_of_mem _ ?_)))); (case zq18_lo => first | assumption | omega); (case zq18_hi => first | assumption | omega); (case zq18_sm => first | assumption | omega); (case zq18_hs => with_unfolding_all rfl); k_whole); intro a7_z o7_z hm7_z hI7_z)) | walk1)))))
    refine rangeG (stored := []) (G := fun j led' => led' = (I, o) :: news ∧ ∀ j', i < j' → j' < i + 1 + j → ms.getD i 0 &&& ms.getD j' 0 = 0) rfl (by assumption) (small_one (by omega) (by omega) (by omega) (by omega)) (n := ms.length - (i + 1)) (by rw [rangeSize_one]; split <;> omega) (by assumption) (by assumption) ⟨rfl, fun j' h1 h2 => by omega⟩ ?turn2 ?done2
    case turn2 =>
      rintro j t3 u3 h3 tk3 I3 o3 led3 hj ⟨eL, hP3⟩ hoff3 F3 N3
      subst led3
      have i0 : 0 ≤ 0 + (i : Int) := by omega
      have j0 : 0 ≤ 0 + (i : Int) + 1 + (j : Int) := by omega
      have i1 : 0 + (i : Int) < (ms.length : Int) := by omega
      have j1 : 0 + (i : Int) + 1 + (j : Int) < (ms.length : Int) := by omega
      have s1 : ms.length ≤ 64 := by omega
      (repeat' ((first | (k_unfold; (try dsimp only)) | ((fail_if_success (with_reducible show wpAny _ _ (pyIter _) _ _ _)); (fail_if_success (with_reducible show LCg.CompSrc _ _ _ _ _ _ _ _ _ _ _ _ _ _)); (fail_if_success (with_reducible show LCt.CompSrcT _ _ _ _ _ _ _ _ _ _ _ _ _ _ _)); first | with_reducible ((k_here; (with_reducible show wpAny _ _ (eval (Expr.Name _ _) (compEnvC _ _ _ _)) _ _ _); k_dflt (refine' lcf_cell ?zq10_N ?zq10_c ?zq10_m ?zq10_d ?_ ?zq10_a ?zq10_b; (case zq10_a => rfl); (case zq10_b => rfl); (case zq10_N => k_asm); (case zq10_c => rfl); (case zq10_m => k_mem); (case zq10_d => k_asm); k_whole))) | with_reducible ((k_here; (with_reducible show wpAny _ _ (subscriptTail _ _ (Value.ref _) (Value.int _ _)) _ _ _); (with_unfolding_all refine' itemK_N ?zq11_N ?zq11_V ?zq11_s0 ?zq11_lo ?zq11_hi ?zq11_sm ?_ ?zq11_hs; (case zq11_N => assumption); (case zq11_V => assumption); (case zq11_s0 => ((intro p hp; repeat (first | exact hp | refine List.mem_cons_of_mem _ ?_)))); (case zq11_lo => first | assumption | omega); (case zq11_hi => first | assumption | omega); (case zq11_sm => first | assumption | omega); (case zq11_hs => with_unfolding_all rfl); k_whole); intro b7_z x7_z y7_z n7_z hm7_z)) | with_reducible ((k_here; (with_reducible show wpAny _ _ (call (Value.builtin "len") [Value.ref _]) _ _ _); (refine' lenK_N ?zq12_N ?zq12_V ?zq12_s0 ?zq12_sm ?_; (case zq12_N => assumption); (case zq12_V => assumption); (case zq12_s0 => ((intro p hp; repeat (first | exact hp | refine List.mem_cons_of_mem _ ?_)))); (case zq12_sm => first | assumption | omega); k_whole))) | ((with_reducible show wpAny _ _ (call (Value.type "range") _) _ _ _); with_reducible ((k_here; first   | ((refine' range1_N ?zq13_F ?zq13_N ?_; (case zq13_F => assumption); (case zq13_N => assumption); k_whole); intro hq_z r7_z t71_z t73_z tk7_z hR7_z Fq_z Nq_z)   | ((refine' range2_N ?zq13_F ?zq13_N ?_; (case zq13_F => assumption); (case zq13_N => assumption); k_whole); intro hq_z r7_z t73_z tk7_z hR7_z Fq_z Nq_z)))) | with_reducible ((k_here; (with_reducible show wpAny _ _ (call (Value.builtin "len") [Value.ref _]) _ _ _); (refine' len_N ?zq14_N ?zq14_V ?zq14_s0 ?zq14_sm ?_; (case zq14_N => assumption); (case zq14_V => assumption); (case zq14_s0 => ((intro p hp; repeat (first | exact hp | refine List.mem_cons_of_mem _ ?_)))); (case zq14_sm => first | assumption | omega); k_whole))) | ((with_reducible show wpAny _ _ (compareOp CmpOp.NotEq (Value.ref _) (Value.ref _)) _ _ _); with_reducible ((k_here; (refine' ne_N ?zq15_N ?zq15_a ?zq15_Ma ?zq15_b ?zq15_Mb ?zq15_u ?_; (case zq15_N => assumption); (case zq15_a => exact List.mem_cons_of_mem _ (List.mem_cons_self)); (case zq15_Ma => assumption); (case zq15_b => exact List.mem_cons_self); (case zq15_Mb => assumption); (case zq15_u => (simp only [units_in1, units_deeper]; omega)); k_whole)))) | ((with_reducible show wpAny _ _ (call (Value.type "set") []) _ _ _); with_reducible ((k_here; (refine' set0_N ?zq16_F ?zq16_N ?_; (case zq16_F => assumption); (case zq16_N => assumption); k_whole); intro hq_z c7_z o7_z Fq_z Nq_z hI7_z hne7_z))) | ((with_reducible show wpAny _ _ (binaryOp Operator.BitAnd (Value.ref _) (Value.ref _)) _ _ _); with_reducible ((k_here; (refine' and_N ?zq17_F ?zq17_N ?zq17_a ?zq17_s0 ?zq17_Ma ?zq17_b ?zq17_s1 ?zq17_Mb ?_; (case zq17_F => assumption); (case zq17_N => assumption); (case zq17_a => assumption); (case zq17_s0 => ((intro p hp; repeat (first | exact hp | refine List.mem_cons_of_mem _ ?_)))); (case zq17_Ma => assumption); (case zq17_b => assumption); (case zq17_s1 => ((intro p hp; repeat (first | exact hp | refine List.mem_cons_of_mem _ ?_)))); (case zq17_Mb => assumption); k_whole); intro hq_z c7_z o7_z Fq_z Nq_z hI7_z hne7_z))) | with_reducible ((k_here; (with_reducible show wpAny _ _ (subscriptTail _ _ (Value.ref _) (Value.int _ _)) _ _ _); (with_unfolding_all refine' item_N ?zq18_N ?zq18_V ?zq18_s0 ?zq18_lo ?zq18_hi ?zq18_sm ?_ ?zq18_hs; (case zq18_N => assumption); (case zq18_V => assumption); (case zq18_s0 => ((intro p hp; repeat (first | exact hp | refine List.mem_cons_of_mem _ ?_)))); (case zq18_lo => first | assumption | omega); (case zq18_hi => first | assumption | omega); (case zq18_sm => first | assumption | omega); (case zq18_hs => with_unfolding_all rfl); k_whole); intro a7_z o7_z hm7_z hI7_z)) | walk1 | (dsimp only; first | with_reducible ((k_here; (with_reducible show wpAny _ _ (eval (Expr.Name _ _) (compEnvC _ _ _ _)) _ _ _); k_dflt (refine' lcf_cell ?zq10_N ?zq10_c ?zq10_m ?zq10_d ?_ ?zq10_a ?zq10_b; (case zq10_a => rfl); (case zq10_b => rfl); (case zq10_N => k_asm); (case zq10_c => rfl); (case zq10_m => k_mem); (case zq10_d => k_asm); k_whole))) | with_reducible ((k_here; (with_reducible show wpAny _ _ (subscriptTail _ _ (Value.ref _) (Value.int _ _)) _ _ _); (with_unfolding_all refine' itemK_N ?zq11_N ?zq11_V ?zq11_s0 ?zq11_lo ?zq11_hi ?zq11_sm ?_ ?zq11_hs; (case zq11_N => assumption); (case zq11_V => assumption); (case zq11_s0 => ((intro p hp; repeat (first | exact hp | refine List.mem_cons_of_mem _ ?_)))); (case zq11_lo => first | assumption | omega); (case zq11_hi => first | assumption | omega); (case zq11_sm => first | assumption | omega); (case zq11_hs => with_unfolding_all rfl); k_whole); intro b7_z x7_z y7_z n7_z hm7_z)) | with_reducible ((k_here; (with_reducible show wpAny _ _ (call (Value.builtin "len") [Value.ref _]) _ _ _); (refine' lenK_N ?zq12_N ?zq12_V ?zq12_s0 ?zq12_sm ?_; (case zq12_N => assumption); (case zq12_V => assumption); (case zq12_s0 => ((intro p hp; repeat (first | exact hp | refine List.mem_cons_of_mem _ ?_)))); (case zq12_sm => first | assumption | omega); k_whole))) | ((with_reducible show wpAny _ _ (call (Value.type "range") _) _ _ _); with_reducible ((k_here; first   | ((refine' range1_N ?zq13_F ?zq13_N ?_; (case zq13_F => assumption); (case zq13_N => assumption); k_whole); intro hq_z r7_z t71_z t73_z tk7_z hR7_z Fq_z Nq_z)   | ((refine' range2_N ?zq13_F ?zq13_N ?_; (case zq13_F => assumption); (case zq13_N => assumption); k_whole); intro hq_z r7_z t73_z tk7_z hR7_z Fq_z Nq_z)))) | with_reducible ((k_here; (with_reducible show wpAny _ _ (call (Value.builtin "len") [Value.ref _]) _ _ _); (refine' len_N ?zq14_N ?zq14_V ?zq14_s0 ?zq14_sm ?_; (case zq14_N => assumption); (case zq14_V => assumption); (case zq14_s0 => ((intro p hp; repeat (first | exact hp | refine List.mem_cons_of_mem _ ?_)))); (case zq14_sm => first | assumption | omega); k_whole))) | ((with_reducible show wpAny _ _ (compareOp CmpOp.NotEq (Value.ref _) (Value.ref _)) _ _ _); with_reducible ((k_here; (refine' ne_N ?zq15_N ?zq15_a ?zq15_Ma ?zq15_b ?zq15_Mb ?zq15_u ?_; (case zq15_N => assumption); (case zq15_a => exact List.mem_cons_of_mem _ (List.mem_cons_self)); (case zq15_Ma => assumption); (case zq15_b => exact List.mem_cons_self); (case zq15_Mb => assumption); (case zq15_u => (simp only [units_in1, units_deeper]; omega)); k_whole)))) | ((with_reducible show wpAny _ _ (call (Value.type "set") []) _ _ _); with_reducible ((k_here; (refine' set0_N ?zq16_F ?zq16_N ?_; (case zq16_F => assumption); (case zq16_N => assumption); k_whole); intro hq_z c7_z o7_z Fq_z Nq_z hI7_z hne7_z))) | ((with_reducible show wpAny _ _ (binaryOp Operator.BitAnd (Value.ref _) (Value.ref _)) _ _ _); with_reducible ((k_here; (refine' and_N ?zq17_F ?zq17_N ?zq17_a ?zq17_s0 ?zq17_Ma ?zq17_b ?zq17_s1 ?zq17_Mb ?_; (case zq17_F => assumption); (case zq17_N => assumption); (case zq17_a => assumption); (case zq17_s0 => ((intro p hp; repeat (first | exact hp | refine List.mem_cons_of_mem _ ?_)))); (case zq17_Ma => assumption); (case zq17_b => assumption); (case zq17_s1 => ((intro p hp; repeat (first | exact hp | refine List.mem_cons_of_mem _ ?_)))); (case zq17_Mb => assumption); k_whole); intro hq_z c7_z o7_z Fq_z Nq_z hI7_z hne7_z))) | with_reducible ((k_here; (with_reducible show wpAny _ _ (subscriptTail _ _ (Value.ref _) (Value.int _ _)) _ _ _); (with_unfolding_all refine' item_N ?zq18_N ?zq18_V ?zq18_s0 ?zq18_lo ?zq18_hi ?zq18_sm ?_ ?zq18_hs; (case zq18_N => assumption); (case zq18_V => assumption); (case zq18_s0 => ((intro p hp; repeat (first | exact hp | refine List.mem_cons_of_mem _ ?_)))); (case zq18_lo => first | assumption | omega); (case zq18_hi => first | assumption | omega); (case zq18_sm => first | assumption | omega); (case zq18_hs => with_unfolding_all rfl); k_whole); intro a7_z o7_z hm7_z hI7_z)) | walk1)))))
      · rename_i hc
        rw [show (0 + (i : Int)).toNat = i by omega, show (0 + (i : Int) + 1 + (j : Int)).toNat = i + 1 + j by omega] at hc
        have e : sharesB ms = true := sharesB_true (i := i) (j := i + 1 + j) (by omega) (by omega) hc
        rw [e] at ret
        dsimp only [TurnG]
        (repeat' ((first | (k_unfold; (try dsimp only)) | ((fail_if_success (with_reducible show wpAny _ _ (pyIter _) _ _ _)); (fail_if_success (with_reducible show LCg.CompSrc _ _ _ _ _ _ _ _ _ _ _ _ _ _)); (fail_if_success (with_reducible show LCt.CompSrcT _ _ _ _ _ _ _ _ _ _ _ _ _ _ _)); first | with_reducible ((k_here; (with_reducible show wpAny _ _ (eval (Expr.Name _ _) (compEnvC _ _ _ _)) _ _ _); k_dflt (refine' lcf_cell ?zq10_N ?zq10_c ?zq10_m ?zq10_d ?_ ?zq10_a ?zq10_b; (case zq10_a => rfl); (case zq10_b => rfl); (case zq10_N => k_asm); (case zq10_c => rfl); (case zq10_m => k_mem); (case zq10_d => k_asm); k_whole))) | with_reducible ((k_here; (with_reducible show wpAny _ _ (subscriptTail _ _ (Value.ref _) (Value.int _ _)) _ _ _); (with_unfolding_all refine' itemK_N ?zq11_N ?zq11_V ?zq11_s0 ?zq11_lo ?zq11_hi ?zq11_sm ?_ ?zq11_hs; (case zq11_N => assumption); (case zq11_V => assumption); (case zq11_s0 => ((intro p hp; repeat (first | exact hp | refine List.mem_cons_of_mem _ ?_)))); (case zq11_lo => first | assumption | omega); (case zq11_hi => first | assumption | omega); (case zq11_sm => first | assumption | omega); (case zq11_hs => with_unfolding_all rfl); k_whole); intro b7_z x7_z y7_z n7_z hm7_z)) | with_reducible ((k_here; (with_reducible show wpAny _ _ (call (Value.builtin "len") [Value.ref _]) _ _ _); (refine' lenK_N ?zq12_N ?zq12_V ?zq12_s0 ?zq12_sm ?_; (case zq12_N => assumption); (case zq12_V => assumption); (case zq12_s0 => ((intro p hp; repeat (first | exact hp | refine List.mem_cons_of_mem _ ?_)))); (case zq12_sm => first | assumption | omega); k_whole))) | ((with_reducible show wpAny _ _ (call (Value.type "range") _) _ _ _); with_reducible ((k_here; first   | ((refine' range1_N ?zq13_F ?zq13_N ?_; (case zq13_F => assumption); (case zq13_N => assumption); k_whole); intro hq_z r7_z t71_z t73_z tk7_z hR7_z Fq_z Nq_z)   | ((refine' range2_N ?zq13_F ?zq13_N ?_; (case zq13_F => assumption); (case zq13_N => assumption); k_whole); intro hq_z r7_z t73_z tk7_z hR7_z Fq_z Nq_z)))) | with_reducible ((k_here; (with_reducible show wpAny _ _ (call (Value.builtin "len") [Value.ref _]) _ _ _); (refine' len_N ?zq14_N ?zq14_V ?zq14_s0 ?zq14_sm ?_; (case zq14_N => assumption); (case zq14_V => assumption); (case zq14_s0 => ((intro p hp; repeat (first | exact hp | refine List.mem_cons_of_mem _ ?_)))); (case zq14_sm => first | assumption | omega); k_whole))) | ((with_reducible show wpAny _ _ (compareOp CmpOp.NotEq (Value.ref _) (Value.ref _)) _ _ _); with_reducible ((k_here; (refine' ne_N ?zq15_N ?zq15_a ?zq15_Ma ?zq15_b ?zq15_Mb ?zq15_u ?_; (case zq15_N => assumption); (case zq15_a => exact List.mem_cons_of_mem _ (List.mem_cons_self)); (case zq15_Ma => assumption); (case zq15_b => exact List.mem_cons_self); (case zq15_Mb => assumption); (case zq15_u => (simp only [units_in1, units_deeper]; omega)); k_whole)))) | ((with_reducible show wpAny _ _ (call (Value.type "set") []) _ _ _); with_reducible ((k_here; (refine' set0_N ?zq16_F ?zq16_N ?_; (case zq16_F => assumption); (case zq16_N => assumption); k_whole); intro hq_z c7_z o7_z Fq_z Nq_z hI7_z hne7_z))) | ((with_reducible show wpAny _ _ (binaryOp Operator.BitAnd (Value.ref _) (Value.ref _)) _ _ _); with_reducible ((k_here; (refine' and_N ?zq17_F ?zq17_N ?zq17_a ?zq17_s0 ?zq17_Ma ?zq17_b ?zq17_s1 ?zq17_Mb ?_; (case zq17_F => assumption); (case zq17_N => assumption); (case zq17_a => assumption); (case zq17_s0 => ((intro p hp; repeat (first | exact hp | refine List.mem_cons_of_mem _ ?_)))); (case zq17_Ma => assumption); (case zq17_b => assumption); (case zq17_s1 => ((intro p hp; repeat (first | exact hp | refine List.mem_cons_of_mem _ ?_)))); (case zq17_Mb => assumption); k_whole); intro hq_z c7_z o7_z Fq_z Nq_z hI7_z hne7_z))) | with_reducible ((k_here; (with_reducible show wpAny _ _ (subscriptTail _ _ (Value.ref _) (Value.int _ _)) _ _ _); (with_unfolding_all refine' item_N ?zq18_N ?zq18_V ?zq18_s0 ?zq18_lo ?zq18_hi ?zq18_sm ?_ ?zq18_hs; (case zq18_N => assumption); (case zq18_V => assumption); (case zq18_s0 => ((intro p hp; repeat (first | exact hp | refine List.mem_cons_of_mem _ ?_)))); (case zq18_lo => first | assumption | omega); (case zq18_hi => first | assumption | omega); (case zq18_sm => first | assumption | omega); (case zq18_hs => with_unfolding_all rfl); k_whole); intro a7_z o7_z hm7_z hI7_z)) | walk1 | (dsimp only; first | with_reducible ((k_here; (with_reducible show wpAny _ _ (eval (Expr.Name _ _) (compEnvC _ _ _ _)) _ _ _); k_dflt (refine' lcf_cell ?zq10_N ?zq10_c ?zq10_m ?zq10_d ?_ ?zq10_a ?zq10_b; (case zq10_a => rfl); (case zq10_b => rfl); (case zq10_N => k_asm); (case zq10_c => rfl); (case zq10_m => k_mem); (case zq10_d => k_asm); k_whole))) | with_reducible ((k_here; (with_reducible show wpAny _ _ (subscriptTail _ _ (Value.ref _) (Value.int _ _)) _ _ _); (with_unfolding_all refine' itemK_N ?zq11_N ?zq11_V ?zq11_s0 ?zq11_lo ?zq11_hi ?zq11_sm ?_ ?zq11_hs; (case zq11_N => assumption); (case zq11_V => assumption); (case zq11_s0 => ((intro p hp; repeat (first | exact hp | refine List.mem_cons_of_mem _ ?_)))); (case zq11_lo => first | assumption | omega); (case zq11_hi => first | assumption | omega); (case zq11_sm => first | assumption | omega); (case zq11_hs => with_unfolding_all rfl); k_whole); intro b7_z x7_z y7_z n7_z hm7_z)) | with_reducible ((k_here; (with_reducible show wpAny _ _ (call (Value.builtin "len") [Value.ref _]) _ _ _); (refine' lenK_N ?zq12_N ?zq12_V ?zq12_s0 ?zq12_sm ?_; (case zq12_N => assumption); (case zq12_V => assumption); (case zq12_s0 => ((intro p hp; repeat (first | exact hp | refine List.mem_cons_of_mem _ ?_)))); (case zq12_sm => first | assumption | omega); k_whole))) | ((with_reducible show wpAny _ _ (call (Value.type "range") _) _ _ _); with_reducible ((k_here; first   | ((refine' range1_N ?zq13_F ?zq13_N ?_; (case zq13_F => assumption); (case zq13_N => assumption); k_whole); intro hq_z r7_z t71_z t73_z tk7_z hR7_z Fq_z Nq_z)   | ((refine' range2_N ?zq13_F ?zq13_N ?_; (case zq13_F => assumption); (case zq13_N => assumption); k_whole); intro hq_z r7_z t73_z tk7_z hR7_z Fq_z Nq_z)))) | with_reducible ((k_here; (with_reducible show wpAny _ _ (call (Value.builtin "len") [Value.ref _]) _ _ _); (refine' len_N ?zq14_N ?zq14_V ?zq14_s0 ?zq14_sm ?_; (case zq14_N => assumption); (case zq14_V => assumption); (case zq14_s0 => ((intro p hp; repeat (first | exact hp | refine List.mem_cons_of_mem _ ?_)))); (case zq14_sm => first | assumption | omega); k_whole))) | ((with_reducible show wpAny _ _ (compareOp CmpOp.NotEq (Value.ref _) (Value.ref _)) _ _ _); with_reducible ((k_here; (refine' ne_N ?zq15_N ?zq15_a ?zq15_Ma ?zq15_b ?zq15_Mb ?zq15_u ?_; (case zq15_N => assumption); (case zq15_a => exact List.mem_cons_of_mem _ (List.mem_cons_self)); (case zq15_Ma => assumption); (case zq15_b => exact List.mem_cons_self); (case zq15_Mb => assumption); (case zq15_u => (simp only [units_in1, units_deeper]; omega)); k_whole)))) | ((with_reducible show wpAny _ _ (call (Value.type "set") []) _ _ _); with_reducible ((k_here; (refine' set0_N ?zq16_F ?zq16_N ?_; (case zq16_F => assumption); (case zq16_N => assumption); k_whole); intro hq_z c7_z o7_z Fq_z Nq_z hI7_z hne7_z))) | ((with_reducible show wpAny _ _ (binaryOp Operator.BitAnd (Value.ref _) (Value.ref _)) _ _ _); with_reducible ((k_here; (refine' and_N ?zq17_F ?zq17_N ?zq17_a ?zq17_s0 ?zq17_Ma ?zq17_b ?zq17_s1 ?zq17_Mb ?_; (case zq17_F => assumption); (case zq17_N => assumption); (case zq17_a => assumption); (case zq17_s0 => ((intro p hp; repeat (first | exact hp | refine List.mem_cons_of_mem _ ?_)))); (case zq17_Ma => assumption); (case zq17_b => assumption); (case zq17_s1 => ((intro p hp; repeat (first | exact hp | refine List.mem_cons_of_mem _ ?_)))); (case zq17_Mb => assumption); k_whole); intro hq_z c7_z o7_z Fq_z Nq_z hI7_z hne7_z))) | with_reducible ((k_here; (with_reducible show wpAny _ _ (subscriptTail _ _ (Value.ref _) (Value.int _ _)) _ _ _); (with_unfolding_all refine' item_N ?zq18_N ?zq18_V ?zq18_s0 ?zq18_lo ?zq18_hi ?zq18_sm ?_ ?zq18_hs; (case zq18_N => assumption); (case zq18_V => assumption); (case zq18_s0 => ((intro p hp; repeat (first | exact hp | refine List.mem_cons_of_mem _ ?_)))); (case zq18_lo => first | assumption | omega); (case zq18_hi => first | assumption | omega); (case zq18_sm => first | assumption | omega); (case zq18_hs => with_unfolding_all rfl); k_whole); intro a7_z o7_z hm7_z hI7_z)) | walk1)))))
        exact ret [_, _, _, _] _ _ (by assumption) (by assumption)
      · (repeat' ((first | (k_unfold; (try dsimp only)) | ((fail_if_success (with_reducible show wpAny _ _ (pyIter _) _ _ _)); (fail_if_success (with_reducible show LCg.CompSrc _ _ _ _ _ _ _ _ _ _ _ _ _ _)); (fail_if_success (with_reducible show LCt.CompSrcT _ _ _ _ _ _ _ _ _ _ _ _ _ _ _)); first | with_reducible ((k_here; (with_reducible show wpAny _ _ (eval (Expr.Name _ _) (compEnvC _ _ _ _)) _ _ _); k_dflt (refine' lcf_cell ?zq10_N ?zq10_c ?zq10_m ?zq10_d ?_ ?zq10_a ?zq10_b; (case zq10_a => rfl); (case zq10_b => rfl); (case zq10_N => k_asm); (case zq10_c => rfl); (case zq10_m => k_mem); (case zq10_d => k_asm); k_whole))) | with_reducible ((k_here; (with_reducible show wpAny _ _ (subscriptTail _ _ (Value.ref _) (Value.int _ _)) _ _ _); (with_unfolding_all refine' itemK_N ?zq11_N ?zq11_V ?zq11_s0 ?zq11_lo ?zq11_hi ?zq11_sm ?_ ?zq11_hs; (case zq11_N => assumption); (case zq11_V => assumption); (case zq11_s0 => ((intro p hp; repeat (first | exact hp | refine List.mem_cons_of_mem _ ?_)))); (case zq11_lo => first | assumption | omega); (case zq11_hi => first | assumption | omega); (case zq11_sm => first | assumption | omega); (case zq11_hs => with_unfolding_all rfl); k_whole); intro b7_z x7_z y7_z n7_z hm7_z)) | with_reducible ((k_here; (with_reducible show wpAny _ _ (call (Value.builtin "len") [Value.ref _]) _ _ _); (refine' lenK_N ?zq12_N ?zq12_V ?zq12_s0 ?zq12_sm ?_; (case zq12_N => assumption); (case zq12_V => assumption); (case zq12_s0 => ((intro p hp; repeat (first | exact hp | refine List.mem_cons_of_mem _ ?_)))); (case zq12_sm => first | assumption | omega); k_whole))) | ((with_reducible show wpAny _ _ (call (Value.type "range") _) _ _ _); with_reducible ((k_here; first   | ((refine' range1_N ?zq13_F ?zq13_N ?_; (case zq13_F => assumption); (case zq13_N => assumption); k_whole); intro hq_z r7_z t71_z t73_z tk7_z hR7_z Fq_z Nq_z)   | ((refine' range2_N ?zq13_F ?zq13_N ?_; (case zq13_F => assumption); (case zq13_N => assumption); k_whole); intro hq_z r7_z t73_z tk7_z hR7_z Fq_z Nq_z)))) | with_reducible ((k_here; (with_reducible show wpAny _ _ (call (Value.builtin "len") [Value.ref _]) _ _ _); (refine' len_N ?zq14_N ?zq14_V ?zq14_s0 ?zq14_sm ?_; (case zq14_N => assumption); (case zq14_V => assumption); (case zq14_s0 => ((intro p hp; repeat (first | exact hp | refine List.mem_cons_of_mem _ ?_)))); (case zq14_sm => first | assumption | omega); k_whole))) | ((with_reducible show wpAny _ _ (compareOp CmpOp.NotEq (Value.ref _) (Value.ref _)) _ _ _); with_reducible ((k_here; (refine' ne_N ?zq15_N ?zq15_a ?zq15_Ma ?zq15_b ?zq15_Mb ?zq15_u ?_; (case zq15_N => assumption); (case zq15_a => exact List.mem_cons_of_mem _ (List.mem_cons_self)); (case zq15_Ma => assumption); (case zq15_b => exact List.mem_cons_self); (case zq15_Mb => assumption); (case zq15_u => (simp only [units_in1, units_deeper]; omega)); k_whole)))) | ((with_reducible show wpAny _ _ (call (Value.type "set") []) _ _ _); with_reducible ((k_here; (refine' set0_N ?zq16_F ?zq16_N ?_; (case zq16_F => assumption); (case zq16_N => assumption); k_whole); intro hq_z c7_z o7_z Fq_z Nq_z hI7_z hne7_z))) | ((with_reducible show wpAny _ _ (binaryOp Operator.BitAnd (Value.ref _) (Value.ref _)) _ _ _); with_reducible ((k_here; (refine' and_N ?zq17_F ?zq17_N ?zq17_a ?zq17_s0 ?zq17_Ma ?zq17_b ?zq17_s1 ?zq17_Mb ?_; (case zq17_F => assumption); (case zq17_N => assumption); (case zq17_a => assumption); (case zq17_s0 => ((intro p hp; repeat (first | exact hp | refine List.mem_cons_of_mem _ ?_)))); (case zq17_Ma => assumption); (case zq17_b => assumption); (case zq17_s1 => ((intro p hp; repeat (first | exact hp | refine List.mem_cons_of_mem _ ?_)))); (case zq17_Mb => assumption); k_whole); intro hq_z c7_z o7_z Fq_z Nq_z hI7_z hne7_z))) | with_reducible ((k_here; (with_reducible show wpAny _ _ (subscriptTail _ _ (Value.ref _) (Value.int _ _)) _ _ _); (with_unfolding_all refine' item_N ?zq18_N ?zq18_V ?zq18_s0 ?zq18_lo ?zq18_hi ?zq18_sm ?_ ?zq18_hs; (case zq18_N => assumption); (case zq18_V => assumption); (case zq18_s0 => ((intro p hp; repeat (first | exact hp | refine List.mem_cons_of_mem _ ?_)))); (case zq18_lo => first | assumption | omega); (case zq18_hi => first | assumption | omega); (case zq18_sm => first | assumption | omega); (case zq18_hs => with_unfolding_all rfl); k_whole); intro a7_z o7_z hm7_z hI7_z)) | walk1 | (dsimp only; first | with_reducible ((k_here; (with_reducible show wpAny _ _ (eval (Expr.Name _ _) (compEnvC _ _ _ _)) _ _ _); k_dflt (refine' lcf_cell ?zq10_N ?zq10_c ?zq10_m ?zq10_d ?_ ?zq10_a ?zq10_b; (case zq10_a => rfl); (case zq10_b => rfl); (case zq10_N => k_asm); (case zq10_c => rfl); (case zq10_m => k_mem); (case zq10_d => k_asm); k_whole))) | with_reducible ((k_here; (with_reducible show wpAny _ _ (subscriptTail _ _ (Value.ref _) (Value.int _ _)) _ _ _); (with_unfolding_all refine' itemK_N ?zq11_N ?zq11_V ?zq11_s0 ?zq11_lo ?zq11_hi ?zq11_sm ?_ ?zq11_hs; (case zq11_N => assumption); (case zq11_V => assumption); (case zq11_s0 => ((intro p hp; repeat (first | exact hp | refine List.mem_cons_of_mem _ ?_)))); (case zq11_lo => first | assumption | omega); (case zq11_hi => first | assumption | omega); (case zq11_sm => first | assumption | omega); (case zq11_hs => with_unfolding_all rfl); k_whole); intro b7_z x7_z y7_z n7_z hm7_z)) | with_reducible ((k_here; (with_reducible show wpAny _ _ (call (Value.builtin "len") [Value.ref _]) _ _ _); (refine' lenK_N ?zq12_N ?zq12_V ?zq12_s0 ?zq12_sm ?_; (case zq12_N => assumption); (case zq12_V => assumption); (case zq12_s0 => ((intro p hp; repeat (first | exact hp | refine List.mem_cons_of_mem _ ?_)))); (case zq12_sm => first | assumption | omega); k_whole))) | ((with_reducible show wpAny _ _ (call (Value.type "range") _) _ _ _); with_reducible ((k_here; first   | ((refine' range1_N ?zq13_F ?zq13_N ?_; (case zq13_F => assumption); (case zq13_N => assumption); k_whole); intro hq_z r7_z t71_z t73_z tk7_z hR7_z Fq_z Nq_z)   | ((refine' range2_N ?zq13_F ?zq13_N ?_; (case zq13_F => assumption); (case zq13_N => assumption); k_whole); intro hq_z r7_z t73_z tk7_z hR7_z Fq_z Nq_z)))) | with_reducible ((k_here; (with_reducible show wpAny _ _ (call (Value.builtin "len") [Value.ref _]) _ _ _); (refine' len_N ?zq14_N ?zq14_V ?zq14_s0 ?zq14_sm ?_; (case zq14_N => assumption); (case zq14_V => assumption); (case zq14_s0 => ((intro p hp; repeat (first | exact hp | refine List.mem_cons_of_mem _ ?_)))); (case zq14_sm => first | assumption | omega); k_whole))) | ((with_reducible show wpAny _ _ (compareOp CmpOp.NotEq (Value.ref _) (Value.ref _)) _ _ _); with_reducible ((k_here; (refine' ne_N ?zq15_N ?zq15_a ?zq15_Ma ?zq15_b ?zq15_Mb ?zq15_u ?_; (case zq15_N => assumption); (case zq15_a => exact List.mem_cons_of_mem _ (List.mem_cons_self)); (case zq15_Ma => assumption); (case zq15_b => exact List.mem_cons_self); (case zq15_Mb => assumption); (case zq15_u => (simp only [units_in1, units_deeper]; omega)); k_whole)))) | ((with_reducible show wpAny _ _ (call (Value.type "set") []) _ _ _); with_reducible ((k_here; (refine' set0_N ?zq16_F ?zq16_N ?_; (case zq16_F => assumption); (case zq16_N => assumption); k_whole); intro hq_z c7_z o7_z Fq_z Nq_z hI7_z hne7_z))) | ((with_reducible show wpAny _ _ (binaryOp Operator.BitAnd (Value.ref _) (Value.ref _)) _ _ _); with_reducible ((k_here; (refine' and_N ?zq17_F ?zq17_N ?zq17_a ?zq17_s0 ?zq17_Ma ?zq17_b ?zq17_s1 ?zq17_Mb ?_; (case zq17_F => assumption); (case zq17_N => assumption); (case zq17_a => assumption); (case zq17_s0 => ((intro p hp; repeat (first | exact hp | refine List.mem_cons_of_mem _ ?_)))); (case zq17_Ma => assumption); (case zq17_b => assumption); (case zq17_s1 => ((intro p hp; repeat (first | exact hp | refine List.mem_cons_of_mem _ ?_)))); (case zq17_Mb => assumption); k_whole); intro hq_z c7_z o7_z Fq_z Nq_z hI7_z hne7_z))) | with_reducible ((k_here; (with_reducible show wpAny _ _ (subscriptTail _ _ (Value.ref _) (Value.int _ _)) _ _ _); (with_unfolding_all refine' item_N ?zq18_N ?zq18_V ?zq18_s0 ?zq18_lo ?zq18_hi ?zq18_sm ?_ ?zq18_hs; (case zq18_N => assumption); (case zq18_V => assumption); (case zq18_s0 => ((intro p hp; repeat (first | exact hp | refine List.mem_cons_of_mem _ ?_)))); (case zq18_lo => first | assumption | omega); (case zq18_hi => first | assumption | omega); (case zq18_sm => first | assumption | omega); (case zq18_hs => with_unfolding_all rfl); k_whole); intro a7_z o7_z hm7_z hI7_z)) | walk1)))))
        rename_i hc
        rw [show (0 + (i : Int)).toNat = i by omega, show (0 + (i : Int) + 1 + (j : Int)).toNat = i + 1 + j by omega] at hc
        refine ⟨_, _, _, (I, o) :: news, rfl, by assumption, ?_, ?_, ⟨rfl, ?_⟩, ?_⟩
        · exact News.sub (by assumption) (by ((intro p hp; repeat (first | exact hp | refine List.mem_cons_of_mem _ ?_))))
        · exact hoff3
        · intro j' h1 h2
          by_cases hj' : j' = i + 1 + j
          · subst hj'; simpa using hc
          · exact hP3 j' h1 (by omega)
        · intro y h1 _; simp [h1]
    case done2 =>
      rintro u4 h4 tk4 led4 ⟨eL, hP4⟩ F4 N4
      subst led4
      (repeat' ((first | (k_unfold; (try dsimp only)) | ((fail_if_success (with_reducible show wpAny _ _ (pyIter _) _ _ _)); (fail_if_success (with_reducible show LCg.CompSrc _ _ _ _ _ _ _ _ _ _ _ _ _ _)); (fail_if_success (with_reducible show LCt.CompSrcT _ _ _ _ _ _ _ _ _ _ _ _ _ _ _)); first | with_reducible ((k_here; (with_reducible show wpAny _ _ (eval (Expr.Name _ _) (compEnvC _ _ _ _)) _ _ _); k_dflt (refine' lcf_cell ?zq10_N ?zq10_c ?zq10_m ?zq10_d ?_ ?zq10_a ?zq10_b; (case zq10_a => rfl); (case zq10_b => rfl); (case zq10_N => k_asm); (case zq10_c => rfl); (case zq10_m => k_mem); (case zq10_d => k_asm); k_whole))) | with_reducible ((k_here; (with_reducible show wpAny _ _ (subscriptTail _ _ (Value.ref _) (Value.int _ _)) _ _ _); (with_unfolding_all refine' itemK_N ?zq11_N ?zq11_V ?zq11_s0 ?zq11_lo ?zq11_hi ?zq11_sm ?_ ?zq11_hs; (case zq11_N => assumption); (case zq11_V => assumption); (case zq11_s0 => ((intro p hp; repeat (first | exact hp | refine List.mem_cons_of_mem _ ?_)))); (case zq11_lo => first | assumption | omega); (case zq11_hi => first | assumption | omega); (case zq11_sm => first | assumption | omega); (case zq11_hs => with_unfolding_all rfl); k_whole); intro b7_z x7_z y7_z n7_z hm7_z)) | with_reducible ((k_here; (with_reducible show wpAny _ _ (call (Value.builtin "len") [Value.ref _]) _ _ _); (refine' lenK_N ?zq12_N ?zq12_V ?zq12_s0 ?zq12_sm ?_; (case zq12_N => assumption); (case zq12_V => assumption); (case zq12_s0 => ((intro p hp; repeat (first | exact hp | refine List.mem_cons_of_mem _ ?_)))); (case zq12_sm => first | assumption | omega); k_whole))) | ((with_reducible show wpAny _ _ (call (Value.type "range") _) _ _ _); with_reducible ((k_here; first   | ((refine' range1_N ?zq13_F ?zq13_N ?_; (case zq13_F => assumption); (case zq13_N => assumption); k_whole); intro hq_z r7_z t71_z t73_z tk7_z hR7_z Fq_z Nq_z)   | ((refine' range2_N ?zq13_F ?zq13_N ?_; (case zq13_F => assumption); (case zq13_N => assumption); k_whole); intro hq_z r7_z t73_z tk7_z hR7_z Fq_z Nq_z)))) | with_reducible ((k_here; (with_reducible show wpAny _ _ (call (Value.builtin "len") [Value.ref _]) _ _ _); (refine' len_N ?zq14_N ?zq14_V ?zq14_s0 ?zq14_sm ?_; (case zq14_N => assumption); (case zq14_V => assumption); (case zq14_s0 => ((intro p hp; repeat (first | exact hp | refine List.mem_cons_of_mem _ ?_)))); (case zq14_sm => first | assumption | omega); k_whole))) | ((with_reducible show wpAny _ _ (compareOp CmpOp.NotEq (Value.ref _) (Value.ref _)) _ _ _); with_reducible ((k_here; (refine' ne_N ?zq15_N ?zq15_a ?zq15_Ma ?zq15_b ?zq15_Mb ?zq15_u ?_; (case zq15_N => assumption); (case zq15_a => exact List.mem_cons_of_mem _ (List.mem_cons_self)); (case zq15_Ma => assumption); (case zq15_b => exact List.mem_cons_self); (case zq15_Mb => assumption); (case zq15_u => (simp only [units_in1, units_deeper]; omega)); k_whole)))) | ((with_reducible show wpAny _ _ (call (Value.type "set") []) _ _ _); with_reducible ((k_here; (refine' set0_N ?zq16_F ?zq16_N ?_; (case zq16_F => assumption); (case zq16_N => assumption); k_whole); intro hq_z c7_z o7_z Fq_z Nq_z hI7_z hne7_z))) | ((with_reducible show wpAny _ _ (binaryOp Operator.BitAnd (Value.ref _) (Value.ref _)) _ _ _); with_reducible ((k_here; (refine' and_N ?zq17_F ?zq17_N ?zq17_a ?zq17_s0 ?zq17_Ma ?zq17_b ?zq17_s1 ?zq17_Mb ?_; (case zq17_F => assumption); (case zq17_N => assumption); (case zq17_a => assumption); (case zq17_s0 => ((intro p hp; repeat (first | exact hp | refine List.mem_cons_of_mem _ ?_)))); (case zq17_Ma => assumption); (case zq17_b => assumption); (case zq17_s1 => ((intro p hp; repeat (first | exact hp | refine List.mem_cons_of_mem _ ?_)))); (case zq17_Mb => assumption); k_whole); intro hq_z c7_z o7_z Fq_z Nq_z hI7_z hne7_z))) | with_reducible ((k_here; (with_reducible show wpAny _ _ (subscriptTail _ _ (Value.ref _) (Value.int _ _)) _ _ _); (with_unfolding_all refine' item_N ?zq18_N ?zq18_V ?zq18_s0 ?zq18_lo ?zq18_hi ?zq18_sm ?_ ?zq18_hs; (case zq18_N => assumption); (case zq18_V => assumption); (case zq18_s0 => ((intro p hp; repeat (first | exact hp | refine List.mem_cons_of_mem _ ?_)))); (case zq18_lo => first | assumption | omega); (case zq18_hi => first | assumption | omega); (case zq18_sm => first | assumption | omega); (case zq18_hs => with_unfolding_all rfl); k_whole); intro a7_z o7_z hm7_z hI7_z)) | walk1 | (dsimp only; first | with_reducible ((k_here; (with_reducible show wpAny _ _ (eval (Expr.Name _ _) (compEnvC _ _ _ _)) _ _ _); k_dflt (refine' lcf_cell ?zq10_N ?zq10_c ?zq10_m ?zq10_d ?_ ?zq10_a ?zq10_b; (case zq10_a => rfl); (case zq10_b => rfl); (case zq10_N => k_asm); (case zq10_c => rfl); (case zq10_m => k_mem); (case zq10_d => k_asm); k_whole))) | with_reducible ((k_here; (with_reducible show wpAny _ _ (subscriptTail _ _ (Value.ref _) (Value.int _ _)) _ _ _); (with_unfolding_all refine' itemK_N ?zq11_N ?zq11_V ?zq11_s0 ?zq11_lo ?zq11_hi ?zq11_sm ?_ ?zq11_hs; (case zq11_N => assumption); (case zq11_V => assumption); (case zq11_s0 => ((intro p hp; repeat (first | exact hp | refine List.mem_cons_of_mem _ ?_)))); (case zq11_lo => first | assumption | omega); (case zq11_hi => first | assumption | omega); (case zq11_sm => first | assumption | omega); (case zq11_hs => with_unfolding_all rfl); k_whole); intro b7_z x7_z y7_z n7_z hm7_z)) | with_reducible ((k_here; (with_reducible show wpAny _ _ (call (Value.builtin "len") [Value.ref _]) _ _ _); (refine' lenK_N ?zq12_N ?zq12_V ?zq12_s0 ?zq12_sm ?_; (case zq12_N => assumption); (case zq12_V => assumption); (case zq12_s0 => ((intro p hp; repeat (first | exact hp | refine List.mem_cons_of_mem _ ?_)))); (case zq12_sm => first | assumption | omega); k_whole))) | ((with_reducible show wpAny _ _ (call (Value.type "range") _) _ _ _); with_reducible ((k_here; first   | ((refine' range1_N ?zq13_F ?zq13_N ?_; (case zq13_F => assumption); (case zq13_N => assumption); k_whole); intro hq_z r7_z t71_z t73_z tk7_z hR7_z Fq_z Nq_z)   | ((refine' range2_N ?zq13_F ?zq13_N ?_; (case zq13_F => assumption); (case zq13_N => assumption); k_whole); intro hq_z r7_z t73_z tk7_z hR7_z Fq_z Nq_z)))) | with_reducible ((k_here; (with_reducible show wpAny _ _ (call (Value.builtin "len") [Value.ref _]) _ _ _); (refine' len_N ?zq14_N ?zq14_V ?zq14_s0 ?zq14_sm ?_; (case zq14_N => assumption); (case zq14_V => assumption); (case zq14_s0 => ((intro p hp; repeat (first | exact hp | refine List.mem_cons_of_mem _ ?_)))); (case zq14_sm => first | assumption | omega); k_whole))) | ((with_reducible show wpAny _ _ (compareOp CmpOp.NotEq (Value.ref _) (Value.ref _)) _ _ _); with_reducible ((k_here; (refine' ne_N ?zq15_N ?zq15_a ?zq15_Ma ?zq15_b ?zq15_Mb ?zq15_u ?_; (case zq15_N => assumption); (case zq15_a => exact List.mem_cons_of_mem _ (List.mem_cons_self)); (case zq15_Ma => assumption); (case zq15_b => exact List.mem_cons_self); (case zq15_Mb => assumption); (case zq15_u => (simp only [units_in1, units_deeper]; omega)); k_whole)))) | ((with_reducible show wpAny _ _ (call (Value.type "set") []) _ _ _); with_reducible ((k_here; (refine' set0_N ?zq16_F ?zq16_N ?_; (case zq16_F => assumption); (case zq16_N => assumption); k_whole); intro hq_z c7_z o7_z Fq_z Nq_z hI7_z hne7_z))) | ((with_reducible show wpAny _ _ (binaryOp Operator.BitAnd (Value.ref _) (Value.ref _)) _ _ _); with_reducible ((k_here; (refine' and_N ?zq17_F ?zq17_N ?zq17_a ?zq17_s0 ?zq17_Ma ?zq17_b ?zq17_s1 ?zq17_Mb ?_; (case zq17_F => assumption); (case zq17_N => assumption); (case zq17_a => assumption); (case zq17_s0 => ((intro p hp; repeat (first | exact hp | refine List.mem_cons_of_mem _ ?_)))); (case zq17_Ma => assumption); (case zq17_b => assumption); (case zq17_s1 => ((intro p hp; repeat (first | exact hp | refine List.mem_cons_of_mem _ ?_)))); (case zq17_Mb => assumption); k_whole); intro hq_z c7_z o7_z Fq_z Nq_z hI7_z hne7_z))) | with_reducible ((k_here; (with_reducible show wpAny _ _ (subscriptTail _ _ (Value.ref _) (Value.int _ _)) _ _ _); (with_unfolding_all refine' item_N ?zq18_N ?zq18_V ?zq18_s0 ?zq18_lo ?zq18_hi ?zq18_sm ?_ ?zq18_hs; (case zq18_N => assumption); (case zq18_V => assumption); (case zq18_s0 => ((intro p hp; repeat (first | exact hp | refine List.mem_cons_of_mem _ ?_)))); (case zq18_lo => first | assumption | omega); (case zq18_hi => first | assumption | omega); (case zq18_sm => first | assumption | omega); (case zq18_hs => with_unfolding_all rfl); k_whole); intro a7_z o7_z hm7_z hI7_z)) | walk1)))))
      refine ⟨_, _, _, news, rfl, by assumption, ?_, hoff, ⟨rfl, ?_⟩, ?_⟩
      · exact N4
      · intro i' h1 j' h2 h3
        by_cases hi' : i' = i
        · subst hi'; exact hP4 j' h2 (by omega)
        · exact hP i' (by omega) j' h2 h3
      · intro y h1 h2
        have h3 : ¬ y = Str.ofString "j" := fun q => by simp [q] at h2
        simp [h1, h3]
  case done =>
    rintro u4 h4 tk4 led4 ⟨eL, hP4⟩ F4 N4
    subst led4
    rw [sharesB_false hP4] at ret
    (repeat' ((first | (k_unfold; (try dsimp only)) | ((fail_if_success (with_reducible show wpAny _ _ (pyIter _) _ _ _)); (fail_if_success (with_reducible show LCg.CompSrc _ _ _ _ _ _ _ _ _ _ _ _ _ _)); (fail_if_success (with_reducible show LCt.CompSrcT _ _ _ _ _ _ _ _ _ _ _ _ _ _ _)); first | with_reducible ((k_here; (with_reducible show wpAny _ _ (eval (Expr.Name _ _) (compEnvC _ _ _ _)) _ _ _); k_dflt (refine' lcf_cell ?zq10_N ?zq10_c ?zq10_m ?zq10_d ?_ ?zq10_a ?zq10_b; (case zq10_a => rfl); (case zq10_b => rfl); (case zq10_N => k_asm); (case zq10_c => rfl); (case zq10_m => k_mem); (case zq10_d => k_asm); k_whole))) | with_reducible ((k_here; (with_reducible show wpAny _ _ (subscriptTail _ _ (Value.ref _) (Value.int _ _)) _ _ _); (with_unfolding_all refine' itemK_N ?zq11_N ?zq11_V ?zq11_s0 ?zq11_lo ?zq11_hi ?zq11_sm ?_ ?zq11_hs; (case zq11_N => assumption); (case zq11_V => assumption); (case zq11_s0 => ((intro p hp; repeat (first | exact hp | refine List.mem_cons_of_mem _ ?_)))); (case zq11_lo => first | assumption | omega); (case zq11_hi => first | assumption | omega); (case zq11_sm => first | assumption | omega); (case zq11_hs => with_unfolding_all rfl); k_whole); intro b7_z x7_z y7_z n7_z hm7_z)) | with_reducible ((k_here; (with_reducible show wpAny _ _ (call (Value.builtin "len") [Value.ref _]) _ _ _); (refine' lenK_N ?zq12_N ?zq12_V ?zq12_s0 ?zq12_sm ?_; (case zq12_N => assumption); (case zq12_V => assumption); (case zq12_s0 => ((intro p hp; repeat (first | exact hp | refine List.mem_cons_of_mem _ ?_)))); (case zq12_sm => first | assumption | omega); k_whole))) | ((with_reducible show wpAny _ _ (call (Value.type "range") _) _ _ _); with_reducible ((k_here; first   | ((refine' range1_N ?zq13_F ?zq13_N ?_; (case zq13_F => assumption); (case zq13_N => assumption); k_whole); intro hq_z r7_z t71_z t73_z tk7_z hR7_z Fq_z Nq_z)   | ((refine' range2_N ?zq13_F ?zq13_N ?_; (case zq13_F => assumption); (case zq13_N => assumption); k_whole); intro hq_z r7_z t73_z tk7_z hR7_z Fq_z Nq_z)))) | with_reducible ((k_here; (with_reducible show wpAny _ _ (call (Value.builtin "len") [Value.ref _]) _ _ _); (refine' len_N ?zq14_N ?zq14_V ?zq14_s0 ?zq14_sm ?_; (case zq14_N => assumption); (case zq14_V => assumption); (case zq14_s0 => ((intro p hp; repeat (first | exact hp | refine List.mem_cons_of_mem _ ?_)))); (case zq14_sm => first | assumption | omega); k_whole))) | ((with_reducible show wpAny _ _ (compareOp CmpOp.NotEq (Value.ref _) (Value.ref _)) _ _ _); with_reducible ((k_here; (refine' ne_N ?zq15_N ?zq15_a ?zq15_Ma ?zq15_b ?zq15_Mb ?zq15_u ?_; (case zq15_N => assumption); (case zq15_a => exact List.mem_cons_of_mem _ (List.mem_cons_self)); (case zq15_Ma => assumption); (case zq15_b => exact List.mem_cons_self); (case zq15_Mb => assumption); (case zq15_u => (simp only [units_in1, units_deeper]; omega)); k_whole)))) | ((with_reducible show wpAny _ _ (call (Value.type "set") []) _ _ _); with_reducible ((k_here; (refine' set0_N ?zq16_F ?zq16_N ?_; (case zq16_F => assumption); (case zq16_N => assumption); k_whole); intro hq_z c7_z o7_z Fq_z Nq_z hI7_z hne7_z))) | ((with_reducible show wpAny _ _ (binaryOp Operator.BitAnd (Value.ref _) (Value.ref _)) _ _ _); with_reducible ((k_here; (refine' and_N ?zq17_F ?zq17_N ?zq17_a ?zq17_s0 ?zq17_Ma ?zq17_b ?zq17_s1 ?zq17_Mb ?_; (case zq17_F => assumption); (case zq17_N => assumption); (case zq17_a => assumption); (case zq17_s0 => ((intro p hp; repeat (first | exact hp | refine List.mem_cons_of_mem _ ?_)))); (case zq17_Ma => assumption); (case zq17_b => assumption); (case zq17_s1 => ((intro p hp; repeat (first | exact hp | refine List.mem_cons_of_mem _ ?_)))); (case zq17_Mb => assumption); k_whole); intro hq_z c7_z o7_z Fq_z Nq_z hI7_z hne7_z))) | with_reducible ((k_here; (with_reducible show wpAny _ _ (subscriptTail _ _ (Value.ref _) (Value.int _ _)) _ _ _); (with_unfolding_all refine' item_N ?zq18_N ?zq18_V ?zq18_s0 ?zq18_lo ?zq18_hi ?zq18_sm ?_ ?zq18_hs; (case zq18_N => assumption); (case zq18_V => assumption); (case zq18_s0 => ((intro p hp; repeat (first | exact hp | refine List.mem_cons_of_mem _ ?_)))); (case zq18_lo => first | assumption | omega); (case zq18_hi => first | assumption | omega); (case zq18_sm => first | assumption | omega); (case zq18_hs => with_unfolding_all rfl); k_whole); intro a7_z o7_z hm7_z hI7_z)) | walk1 | (dsimp only; first | with_reducible ((k_here; (with_reducible show wpAny _ _ (eval (Expr.Name _ _) (compEnvC _ _ _ _)) _ _ _); k_dflt (refine' lcf_cell ?zq10_N ?zq10_c ?zq10_m ?zq10_d ?_ ?zq10_a ?zq10_b; (case zq10_a => rfl); (case zq10_b => rfl); (case zq10_N => k_asm); (case zq10_c => rfl); (case zq10_m => k_mem); (case zq10_d => k_asm); k_whole))) | with_reducible ((k_here; (with_reducible show wpAny _ _ (subscriptTail _ _ (Value.ref _) (Value.int _ _)) _ _ _); (with_unfolding_all refine' itemK_N ?zq11_N ?zq11_V ?zq11_s0 ?zq11_lo ?zq11_hi ?zq11_sm ?_ ?zq11_hs; (case zq11_N => assumption); (case zq11_V => assumption); (case zq11_s0 => ((intro p hp; repeat (first | exact hp | refine List.mem_cons_of_mem _ ?_)))); (case zq11_lo => first | assumption | omega); (case zq11_hi => first | assumption | omega); (case zq11_sm => first | assumption | omega); (case zq11_hs => with_unfolding_all rfl); k_whole); intro b7_z x7_z y7_z n7_z hm7_z)) | with_reducible ((k_here; (with_reducible show wpAny _ _ (call (Value.builtin "len") [Value.ref _]) _ _ _); (refine' lenK_N ?zq12_N ?zq12_V ?zq12_s0 ?zq12_sm ?_; (case zq12_N => assumption); (case zq12_V => assumption); (case zq12_s0 => ((intro p hp; repeat (first | exact hp | refine List.mem_cons_of_mem _ ?_)))); (case zq12_sm => first | assumption | omega); k_whole))) | ((with_reducible show wpAny _ _ (call (Value.type "range") _) _ _ _); with_reducible ((k_here; first   | ((refine' range1_N ?zq13_F ?zq13_N ?_; (case zq13_F => assumption); (case zq13_N => assumption); k_whole); intro hq_z r7_z t71_z t73_z tk7_z hR7_z Fq_z Nq_z)   | ((refine' range2_N ?zq13_F ?zq13_N ?_; (case zq13_F => assumption); (case zq13_N => assumption); k_whole); intro hq_z r7_z t73_z tk7_z hR7_z Fq_z Nq_z)))) | with_reducible ((k_here; (with_reducible show wpAny _ _ (call (Value.builtin "len") [Value.ref _]) _ _ _); (refine' len_N ?zq14_N ?zq14_V ?zq14_s0 ?zq14_sm ?_; (case zq14_N => assumption); (case zq14_V => assumption); (case zq14_s0 => ((intro p hp; repeat (first | exact hp | refine List.mem_cons_of_mem _ ?_)))); (case zq14_sm => first | assumption | omega); k_whole))) | ((with_reducible show wpAny _ _ (compareOp CmpOp.NotEq (Value.ref _) (Value.ref _)) _ _ _); with_reducible ((k_here; (refine' ne_N ?zq15_N ?zq15_a ?zq15_Ma ?zq15_b ?zq15_Mb ?zq15_u ?_; (case zq15_N => assumption); (case zq15_a => exact List.mem_cons_of_mem _ (List.mem_cons_self)); (case zq15_Ma => assumption); (case zq15_b => exact List.mem_cons_self); (case zq15_Mb => assumption); (case zq15_u => (simp only [units_in1, units_deeper]; omega)); k_whole)))) | ((with_reducible show wpAny _ _ (call (Value.type "set") []) _ _ _); with_reducible ((k_here; (refine' set0_N ?zq16_F ?zq16_N ?_; (case zq16_F => assumption); (case zq16_N => assumption); k_whole); intro hq_z c7_z o7_z Fq_z Nq_z hI7_z hne7_z))) | ((with_reducible show wpAny _ _ (binaryOp Operator.BitAnd (Value.ref _) (Value.ref _)) _ _ _); with_reducible ((k_here; (refine' and_N ?zq17_F ?zq17_N ?zq17_a ?zq17_s0 ?zq17_Ma ?zq17_b ?zq17_s1 ?zq17_Mb ?_; (case zq17_F => assumption); (case zq17_N => assumption); (case zq17_a => assumption); (case zq17_s0 => ((intro p hp; repeat (first | exact hp | refine List.mem_cons_of_mem _ ?_)))); (case zq17_Ma => assumption); (case zq17_b => assumption); (case zq17_s1 => ((intro p hp; repeat (first | exact hp | refine List.mem_cons_of_mem _ ?_)))); (case zq17_Mb => assumption); k_whole); intro hq_z c7_z o7_z Fq_z Nq_z hI7_z hne7_z))) | with_reducible ((k_here; (with_reducible show wpAny _ _ (subscriptTail _ _ (Value.ref _) (Value.int _ _)) _ _ _); (with_unfolding_all refine' item_N ?zq18_N ?zq18_V ?zq18_s0 ?zq18_lo ?zq18_hi ?zq18_sm ?_ ?zq18_hs; (case zq18_N => assumption); (case zq18_V => assumption); (case zq18_s0 => ((intro p hp; repeat (first | exact hp | refine List.mem_cons_of_mem _ ?_)))); (case zq18_lo => first | assumption | omega); (case zq18_hi => first | assumption | omega); (case zq18_sm => first | assumption | omega); (case zq18_hs => with_unfolding_all rfl); k_whole); intro a7_z o7_z hm7_z hI7_z)) | walk1)))))
    exact ret [] _ _ (by assumption) (by assumption)
end
section
theorem goes_spec {v v' : Value} {ms ns : List Nat} (X : (KH w.params).In h₀) (B : Below A₀ base outer h₀) (F : Fr h₀ L s.heap m) (N : News h₀ L s.heap news) (T : Top VH loose mean mg mb h₀) (hk : cs.kind = .function)
    (hdp : dp + 10 < recursionLimit) (hun : un + 80 < cLine) (hV : SetsAt (byT w) news v ms) (hV' : SetsAt (byT w) news v' ns) (hms : ms.length ≤ 8) (hns : ns.length = ms.length)
    (ret : ∀ tl h' tk', Fr h₀ L h' m → News h₀ L h' (tl ++ news) → Q (.bool (goesB ms ns)) { s with heap := h', toks := tk' }) :
    wpAny (model PySem.Challenge.rw_pq0572_01.row.prog w) (ktrTop dp un gd cn cs L a ccd cl outer) (call (.ref 309) [v, v']) Q E s := by
  revert X; k_fill; intro X
  obtain ⟨va, its, n, rfl, hVm, hVz, -⟩ := id hV
  obtain ⟨va', its', n', rfl, hVm', hVz', -⟩ := id hV'
  refine wpAny_call ?_
  k_dflt ktr_enter
  rename Fr _ _ _ _ => F1
  replace F1 := fr_args2 (Str.ofString "other") (Str.ofString "one") F1
  generalize s.toks + _ = tk0
  (repeat' ((first | (k_unfold; (try dsimp only)) | ((fail_if_success (with_reducible show wpAny _ _ (pyIter _) _ _ _)); (fail_if_success (with_reducible show LCg.CompSrc _ _ _ _ _ _ _ _ _ _ _ _ _ _)); (fail_if_success (with_reducible show LCt.CompSrcT _ _ _ _ _ _ _ _ _ _ _ _ _ _ _)); first | with_reducible ((k_here; (with_reducible show wpAny _ _ (eval (Expr.Name _ _) (compEnvC _ _ _ _)) _ _ _); k_dflt (refine' lcf_cell ?zq19_N ?zq19_c ?zq19_m ?zq19_d ?_ ?zq19_a ?zq19_b; (case zq19_a => rfl); (case zq19_b => rfl); (case zq19_N => k_asm); (case zq19_c => rfl); (case zq19_m => k_mem); (case zq19_d => k_asm); k_whole))) | with_reducible ((k_here; (with_reducible show wpAny _ _ (subscriptTail _ _ (Value.ref _) (Value.int _ _)) _ _ _); (with_unfolding_all refine' itemK_N ?zq20_N ?zq20_V ?zq20_s0 ?zq20_lo ?zq20_hi ?zq20_sm ?_ ?zq20_hs; (case zq20_N => assumption); (case zq20_V => assumption); (case zq20_s0 => ((intro p hp; repeat (first | exact hp | refine List.mem_cons_of_mem _ ?_)))); (case zq20_lo => first | assumption | omega); (case zq20_hi => first | assumption | omega); (case zq20_sm => first | assumption | omega); (case zq20_hs => with_unfolding_all rfl); k_whole); intro b7_z x7_z y7_z n7_z hm7_z)) | with_reducible ((k_here; (with_reducible show wpAny _ _ (call (Value.builtin "len") [Value.ref _]) _ _ _); (refine' lenK_N ?zq21_N ?zq21_V ?zq21_s0 ?zq21_sm ?_; (case zq21_N => assumption); (case zq21_V => assumption); (case zq21_s0 => ((intro p hp; repeat (first | exact hp | refine List.mem_cons_of_mem _ ?_)))); (case zq21_sm => first | assumption | omega); k_whole))) | ((with_reducible show wpAny _ _ (call (Value.type "range") _) _ _ _); with_reducible ((k_here; first   | ((refine' range1_N ?zq22_F ?zq22_N ?_; (case zq22_F => assumption); (case zq22_N => assumption); k_whole); intro hq_z r7_z t71_z t73_z tk7_z hR7_z Fq_z Nq_z)   | ((refine' range2_N ?zq22_F ?zq22_N ?_; (case zq22_F => assumption); (case zq22_N => assumption); k_whole); intro hq_z r7_z t73_z tk7_z hR7_z Fq_z Nq_z)))) | with_reducible ((k_here; (with_reducible show wpAny _ _ (call (Value.builtin "len") [Value.ref _]) _ _ _); (refine' len_N ?zq23_N ?zq23_V ?zq23_s0 ?zq23_sm ?_; (case zq23_N => assumption); (case zq23_V => assumption); (case zq23_s0 => ((intro p hp; repeat (first | exact hp | refine List.mem_cons_of_mem _ ?_)))); (case zq23_sm => first | assumption | omega); k_whole))) | ((with_reducible show wpAny _ _ (compareOp CmpOp.NotEq (Value.ref _) (Value.ref _)) _ _ _); with_reducible ((k_here; (refine' ne_N ?zq24_N ?zq24_a ?zq24_Ma ?zq24_b ?zq24_Mb ?zq24_u ?_; (case zq24_N => assumption); (case zq24_a => exact List.mem_cons_of_mem _ (List.mem_cons_self)); (case zq24_Ma => assumption); (case zq24_b => exact List.mem_cons_self); (case zq24_Mb => assumption); (case zq24_u => (simp only [units_in1, units_deeper]; omega)); k_whole)))) | ((with_reducible show wpAny _ _ (call (Value.type "set") []) _ _ _); with_reducible ((k_here; (refine' set0_N ?zq25_F ?zq25_N ?_; (case zq25_F => assumption); (case zq25_N => assumption); k_whole); intro hq_z c7_z o7_z Fq_z Nq_z hI7_z hne7_z))) | ((with_reducible show wpAny _ _ (binaryOp Operator.BitAnd (Value.ref _) (Value.ref _)) _ _ _); with_reducible ((k_here; (refine' and_N ?zq26_F ?zq26_N ?zq26_a ?zq26_s0 ?zq26_Ma ?zq26_b ?zq26_s1 ?zq26_Mb ?_; (case zq26_F => assumption); (case zq26_N => assumption); (case zq26_a => assumption); (case zq26_s0 => ((intro p hp; repeat (first | exact hp | refine List.mem_cons_of_mem _ ?_)))); (case zq26_Ma => assumption); (case zq26_b => assumption); (case zq26_s1 => ((intro p hp; repeat (first | exact hp | refine List.mem_cons_of_mem _ ?_)))); (case zq26_Mb => assumption); k_whole); intro hq_z c7_z o7_z Fq_z Nq_z hI7_z hne7_z))) | with_reducible ((k_here; (with_reducible show wpAny _ _ (subscriptTail _ _ (Value.ref _) (Value.int _ _)) _ _ _); (with_unfolding_all refine' item_N ?zq27_N ?zq27_V ?zq27_s0 ?zq27_lo ?zq27_hi ?zq27_sm ?_ ?zq27_hs; (case zq27_N => assumption); (case zq27_V => assumption); (case zq27_s0 => ((intro p hp; repeat (first | exact hp | refine List.mem_cons_of_mem _ ?_)))); (case zq27_lo => first | assumption | omega); (case zq27_hi => first | assumption | omega); (case zq27_sm => first | assumption | omega); (case zq27_hs => with_unfolding_all rfl); k_whole); intro a7_z o7_z hm7_z hI7_z)) | walk1 | (dsimp only; first | with_reducible ((k_here; (with_reducible show wpAny _ _ (eval (Expr.Name _ _) (compEnvC _ _ _ _)) _ _ _); k_dflt (refine' lcf_cell ?zq19_N ?zq19_c ?zq19_m ?zq19_d ?_ ?zq19_a ?zq19_b; (case zq19_a => rfl); (case zq19_b => rfl); (case zq19_N => k_asm); (case zq19_c => rfl); (case zq19_m => k_mem); (case zq19_d => k_asm); k_whole))) | with_reducible ((k_here; (with_reducible show wpAny _ _ (subscriptTail _ _ (Value.ref _) (Value.int _ _)) _ _ _); (with_unfolding_all refine' itemK_N ?zq20_N ?zq20_V ?zq20_s0 ?zq20_lo ?zq20_hi ?zq20_sm ?_ ?zq20_hs; (case zq20_N => assumption); (case zq20_V => assumption); (case zq20_s0 => ((intro p hp; repeat (first | exact hp | refine List.mem_cons_of_mem _ ?_)))); (case zq20_lo => first | assumption | omega); (case zq20_hi => first | assumption | omega); (case zq20_sm => first | assumption | omega); (case zq20_hs => with_unfolding_all rfl); k_whole); intro b7_z x7_z y7_z n7_z hm7_z)) | with_reducible ((k_here; (with_reducible show wpAny _ _ (call (Value.builtin "len") [Value.ref _]) _ _ _); (refine' lenK_N ?zq21_N ?zq21_V ?zq21_s0 ?zq21_sm ?_; (case zq21_N => assumption); (case zq21_V => assumption); (case zq21_s0 => ((intro p hp; repeat (first | exact hp | refine List.mem_cons_of_mem _ ?_)))); (case zq21_sm => first | assumption | omega); k_whole))) | ((with_reducible show wpAny _ _ (call (Value.type "range") _) _ _ _); with_reducible ((k_here; first   | ((refine' range1_N ?zq22_F ?zq22_N ?_; (case zq22_F => assumption); (case zq22_N => assumption); k_whole); intro hq_z r7_z t71_z t73_z tk7_z hR7_z Fq_z Nq_z)   | ((refine' range2_N ?zq22_F ?zq22_N ?_; (case zq22_F => assumption); (case zq22_N => assumption); k_whole); intro hq_z r7_z t73_z tk7_z hR7_z Fq_z Nq_z)))) | with_reducible ((k_here; (with_reducible show wpAny _ _ (call (Value.builtin "len") [Value.ref _]) _ _ _); (refine' len_N ?zq23_N ?zq23_V ?zq23_s0 ?zq23_sm ?_; (case zq23_N => assumption); (case zq23_V => assumption); (case zq23_s0 => ((intro p hp; repeat (first | exact hp | refine List.mem_cons_of_mem _ ?_)))); (case zq23_sm => first | assumption | omega); k_whole))) | ((with_reducible show wpAny _ _ (compareOp CmpOp.NotEq (Value.ref _) (Value.ref _)) _ _ _); with_reducible ((k_here; (refine' ne_N ?zq24_N ?zq24_a ?zq24_Ma ?zq24_b ?zq24_Mb ?zq24_u ?_; (case zq24_N => assumption); (case zq24_a => exact List.mem_cons_of_mem _ (List.mem_cons_self)); (case zq24_Ma => assumption); (case zq24_b => exact List.mem_cons_self); (case zq24_Mb => assumption); (case zq24_u => (simp only [units_in1, units_deeper]; omega)); k_whole)))) | ((with_reducible show wpAny _ _ (call (Value.type "set") []) _ _ _); with_reducible ((k_here; (refine' set0_N ?zq25_F ?zq25_N ?_; (case zq25_F => assumption); (case zq25_N => assumption); k_whole); intro hq_z c7_z o7_z Fq_z Nq_z hI7_z hne7_z))) | ((with_reducible show wpAny _ _ (binaryOp Operator.BitAnd (Value.ref _) (Value.ref _)) _ _ _); with_reducible ((k_here; (refine' and_N ?zq26_F ?zq26_N ?zq26_a ?zq26_s0 ?zq26_Ma ?zq26_b ?zq26_s1 ?zq26_Mb ?_; (case zq26_F => assumption); (case zq26_N => assumption); (case zq26_a => assumption); (case zq26_s0 => ((intro p hp; repeat (first | exact hp | refine List.mem_cons_of_mem _ ?_)))); (case zq26_Ma => assumption); (case zq26_b => assumption); (case zq26_s1 => ((intro p hp; repeat (first | exact hp | refine List.mem_cons_of_mem _ ?_)))); (case zq26_Mb => assumption); k_whole); intro hq_z c7_z o7_z Fq_z Nq_z hI7_z hne7_z))) | with_reducible ((k_here; (with_reducible show wpAny _ _ (subscriptTail _ _ (Value.ref _) (Value.int _ _)) _ _ _); (with_unfolding_all refine' item_N ?zq27_N ?zq27_V ?zq27_s0 ?zq27_lo ?zq27_hi ?zq27_sm ?_ ?zq27_hs; (case zq27_N => assumption); (case zq27_V => assumption); (case zq27_s0 => ((intro p hp; repeat (first | exact hp | refine List.mem_cons_of_mem _ ?_)))); (case zq27_lo => first | assumption | omega); (case zq27_hi => first | assumption | omega); (case zq27_sm => first | assumption | omega); (case zq27_hs => with_unfolding_all rfl); k_whole); intro a7_z o7_z hm7_z hI7_z)) | walk1)))))
  refine rangeG (stored := [Str.ofString "j", Str.ofString "is_crossed", Str.ofString "is_shared"]) (G := fun i led => led = news ∧ Fine ms ns i) rfl (by assumption) (small_one (by omega) (by omega) (by omega) (by omega)) (n := ms.length) (by rw [rangeSize_one]; split <;> omega) (by assumption) (by assumption) ⟨rfl, fun i' hi' => absurd hi' (Nat.not_lt_zero _)⟩ ?turn ?done
  case turn =>
    rintro i t u h2 tk2 I o led hi ⟨eL, hP⟩ hoff F2 N2
    subst led
    (repeat' ((first | (k_unfold; (try dsimp only)) | ((fail_if_success (with_reducible show wpAny _ _ (pyIter _) _ _ _)); (fail_if_success (with_reducible show LCg.CompSrc _ _ _ _ _ _ _ _ _ _ _ _ _ _)); (fail_if_success (with_reducible show LCt.CompSrcT _ _ _ _ _ _ _ _ _ _ _ _ _ _ _)); first | with_reducible ((k_here; (with_reducible show wpAny _ _ (eval (Expr.Name _ _) (compEnvC _ _ _ _)) _ _ _); k_dflt (refine' lcf_cell ?zq19_N ?zq19_c ?zq19_m ?zq19_d ?_ ?zq19_a ?zq19_b; (case zq19_a => rfl); (case zq19_b => rfl); (case zq19_N => k_asm); (case zq19_c => rfl); (case zq19_m => k_mem); (case zq19_d => k_asm); k_whole))) | with_reducible ((k_here; (with_reducible show wpAny _ _ (subscriptTail _ _ (Value.ref _) (Value.int _ _)) _ _ _); (with_unfolding_all refine' itemK_N ?zq20_N ?zq20_V ?zq20_s0 ?zq20_lo ?zq20_hi ?zq20_sm ?_ ?zq20_hs; (case zq20_N => assumption); (case zq20_V => assumption); (case zq20_s0 => ((intro p hp; repeat (first | exact hp | refine List.mem_cons_of_mem _ ?_)))); (case zq20_lo => first | assumption | omega); (case zq20_hi => first | assumption | omega); (case zq20_sm => first | assumption | omega); (case zq20_hs => with_unfolding_all rfl); k_whole); intro b7_z x7_z y7_z n7_z hm7_z)) | with_reducible ((k_here; (with_reducible show wpAny _ _ (call (Value.builtin "len") [Value.ref _]) _ _ _); (refine' lenK_N ?zq21_N ?zq21_V ?zq21_s0 ?zq21_sm ?_; (case zq21_N => assumption); (case zq21_V => assumption); (case zq21_s0 => ((intro p hp; repeat (first | exact hp | refine List.mem_cons_of_mem _ ?_)))); (case zq21_sm => first | assumption | omega); k_whole))) | ((with_reducible show wpAny _ _ (call (Value.type "range") _) _ _ _); with_reducible ((k_here; first   | ((refine' range1_N ?zq22_F ?zq22_N ?_; (case zq22_F => assumption); (case zq22_N => assumption); k_whole); intro hq_z r7_z t71_z t73_z tk7_z hR7_z Fq_z Nq_z)   | ((refine' range2_N ?zq22_F ?zq22_N ?_; (case zq22_F => assumption); (case zq22_N => assumption); k_whole); intro hq_z r7_z t73_z tk7_z hR7_z Fq_z Nq_z)))) | with_reducible ((k_here; (with_reducible show wpAny _ _ (call (Value.builtin "len") [Value.ref _]) _ _ _); (refine' len_N ?zq23_N ?zq23_V ?zq23_s0 ?zq23_sm ?_; (case zq23_N => assumption); (case zq23_V => assumption); (case zq23_s0 => ((intro p hp; repeat (first | exact hp | refine List.mem_cons_of_mem _ ?_)))); (case zq23_sm => first | assumption | omega); k_whole))) | ((with_reducible show wpAny _ _ (compareOp CmpOp.NotEq (Value.ref _) (Value.ref _)) _ _ _); with_reducible ((k_here; (refine' ne_N ?zq24_N ?zq24_a ?zq24_Ma ?zq24_b ?zq24_Mb ?zq24_u ?_; (case zq24_N => assumption); (case zq24_a => exact List.mem_cons_of_mem _ (List.mem_cons_self)); (case zq24_Ma => assumption); (case zq24_b => exact List.mem_cons_self); (case zq24_Mb => assumption); (case zq24_u => (simp only [units_in1, units_deeper]; omega)); k_whole)))) | ((with_reducible show wpAny _ _ (call (Value.type "set") []) _ _ _); with_reducible ((k_here; (refine' set0_N ?zq25_F ?zq25_N ?_; (case zq25_F => assumption); (case zq25_N => assumption); k_whole); intro hq_z c7_z o7_z Fq_z Nq_z hI7_z hne7_z))) | ((with_reducible show wpAny _ _ (binaryOp Operator.BitAnd (Value.ref _) (Value.ref _)) _ _ _); with_reducible ((k_here; (refine' and_N ?zq26_F ?zq26_N ?zq26_a ?zq26_s0 ?zq26_Ma ?zq26_b ?zq26_s1 ?zq26_Mb ?_; (case zq26_F => assumption); (case zq26_N => assumption); (case zq26_a => assumption); (case zq26_s0 => ((intro p hp; repeat (first | exact hp | refine List.mem_cons_of_mem _ ?_)))); (case zq26_Ma => assumption); (case zq26_b => assumption); (case zq26_s1 => ((intro p hp; repeat (first | exact hp | refine List.mem_cons_of_mem _ ?_)))); (case zq26_Mb => assumption); k_whole); intro hq_z c7_z o7_z Fq_z Nq_z hI7_z hne7_z))) | with_reducible ((k_here; (with_reducible show wpAny _ _ (subscriptTail _ _ (Value.ref _) (Value.int _ _)) _ _ _); (with_unfolding_all refine' item_N ?zq27_N ?zq27_V ?zq27_s0 ?zq27_lo ?zq27_hi ?zq27_sm ?_ ?zq27_hs; (case zq27_N => assumption); (case zq27_V => assumption); (case zq27_s0 => ((intro p hp; repeat (first | exact hp | refine List.mem_cons_of_mem _ ?_)))); (case zq27_lo => first | assumption | omega); (case zq27_hi => first | assumption | omega); (case zq27_sm => first | assumption | omega); (case zq27_hs => with_unfolding_all rfl); k_whole); intro a7_z o7_z hm7_z hI7_z)) | walk1 | (dsimp only; first | with_reducible ((k_here; (with_reducible show wpAny _ _ (eval (Expr.Name _ _) (compEnvC _ _ _ _)) _ _ _); k_dflt (refine' lcf_cell ?zq19_N ?zq19_c ?zq19_m ?zq19_d ?_ ?zq19_a ?zq19_b; (case zq19_a => rfl); (case zq19_b => rfl); (case zq19_N => k_asm); (case zq19_c => rfl); (case zq19_m => k_mem); (case zq19_d => k_asm); k_whole))) | with_reducible ((k_here; (with_reducible show wpAny _ _ (subscriptTail _ _ (Value.ref _) (Value.int _ _)) _ _ _); (with_unfolding_all refine' itemK_N ?zq20_N ?zq20_V ?zq20_s0 ?zq20_lo ?zq20_hi ?zq20_sm ?_ ?zq20_hs; (case zq20_N => assumption); (case zq20_V => assumption); (case zq20_s0 => ((intro p hp; repeat (first | exact hp | refine List.mem_cons_of_mem _ ?_)))); (case zq20_lo => first | assumption | omega); (case zq20_hi => first | assumption | omega); (case zq20_sm => first | assumption | omega); (case zq20_hs => with_unfolding_all rfl); k_whole); intro b7_z x7_z y7_z n7_z hm7_z)) | with_reducible ((k_here; (with_reducible show wpAny _ _ (call (Value.builtin "len") [Value.ref _]) _ _ _); (refine' lenK_N ?zq21_N ?zq21_V ?zq21_s0 ?zq21_sm ?_; (case zq21_N => assumption); (case zq21_V => assumption); (case zq21_s0 => ((intro p hp; repeat (first | exact hp | refine List.mem_cons_of_mem _ ?_)))); (case zq21_sm => first | assumption | omega); k_whole))) | ((with_reducible show wpAny _ _ (call (Value.type "range") _) _ _ _); with_reducible ((k_here; first   | ((refine' range1_N ?zq22_F ?zq22_N ?_; (case zq22_F => assumption); (case zq22_N => assumption); k_whole); intro hq_z r7_z t71_z t73_z tk7_z hR7_z Fq_z Nq_z)   | ((refine' range2_N ?zq22_F ?zq22_N ?_; (case zq22_F => assumption); (case zq22_N => assumption); k_whole); intro hq_z r7_z t73_z tk7_z hR7_z Fq_z Nq_z)))) | with_reducible ((k_here; (with_reducible show wpAny _ _ (call (Value.builtin "len") [Value.ref _]) _ _ _); (refine' len_N ?zq23_N ?zq23_V ?zq23_s0 ?zq23_sm ?_; (case zq23_N => assumption); (case zq23_V => assumption); (case zq23_s0 => ((intro p hp; repeat (first | exact hp | refine List.mem_cons_of_mem _ ?_)))); (case zq23_sm => first | assumption | omega); k_whole))) | ((with_reducible show wpAny _ _ (compareOp CmpOp.NotEq (Value.ref _) (Value.ref _)) _ _ _); with_reducible ((k_here; (refine' ne_N ?zq24_N ?zq24_a ?zq24_Ma ?zq24_b ?zq24_Mb ?zq24_u ?_; (case zq24_N => assumption); (case zq24_a => exact List.mem_cons_of_mem _ (List.mem_cons_self)); (case zq24_Ma => assumption); (case zq24_b => exact List.mem_cons_self); (case zq24_Mb => assumption); (case zq24_u => (simp only [units_in1, units_deeper]; omega)); k_whole)))) | ((with_reducible show wpAny _ _ (call (Value.type "set") []) _ _ _); with_reducible ((k_here; (refine' set0_N ?zq25_F ?zq25_N ?_; (case zq25_F => assumption); (case zq25_N => assumption); k_whole); intro hq_z c7_z o7_z Fq_z Nq_z hI7_z hne7_z))) | ((with_reducible show wpAny _ _ (binaryOp Operator.BitAnd (Value.ref _) (Value.ref _)) _ _ _); with_reducible ((k_here; (refine' and_N ?zq26_F ?zq26_N ?zq26_a ?zq26_s0 ?zq26_Ma ?zq26_b ?zq26_s1 ?zq26_Mb ?_; (case zq26_F => assumption); (case zq26_N => assumption); (case zq26_a => assumption); (case zq26_s0 => ((intro p hp; repeat (first | exact hp | refine List.mem_cons_of_mem _ ?_)))); (case zq26_Ma => assumption); (case zq26_b => assumption); (case zq26_s1 => ((intro p hp; repeat (first | exact hp | refine List.mem_cons_of_mem _ ?_)))); (case zq26_Mb => assumption); k_whole); intro hq_z c7_z o7_z Fq_z Nq_z hI7_z hne7_z))) | with_reducible ((k_here; (with_reducible show wpAny _ _ (subscriptTail _ _ (Value.ref _) (Value.int _ _)) _ _ _); (with_unfolding_all refine' item_N ?zq27_N ?zq27_V ?zq27_s0 ?zq27_lo ?zq27_hi ?zq27_sm ?_ ?zq27_hs; (case zq27_N => assumption); (case zq27_V => assumption); (case zq27_s0 => ((intro p hp; repeat (first | exact hp | refine List.mem_cons_of_mem _ ?_)))); (case zq27_lo => first | assumption | omega); (case zq27_hi => first | assumption | omega); (case zq27_sm => first | assumption | omega); (case zq27_hs => with_unfolding_all rfl); k_whole); intro a7_z o7_z hm7_z hI7_z)) | walk1)))))
    refine rangeG (stored := [Str.ofString "is_crossed", Str.ofString "is_shared"]) (G := fun j led' => led' = (I, o) :: news ∧ ∀ j', i < j' → j' < i + 1 + j → badB ms ns i j' = false) rfl (by assumption) (small_one (by omega) (by omega) (by omega) (by omega)) (n := ms.length - (i + 1)) (by rw [rangeSize_one]; split <;> omega) (by assumption) (by assumption) ⟨rfl, fun j' h1 h2 => by omega⟩ ?turn2 ?done2
    case turn2 =>
      rintro j t3 u3 h3 tk3 I3 o3 led3 hj ⟨eL, hP3⟩ hoff3 F3 N3
      subst led3
      have e1 : (0 + (i : Int)).toNat = i := by omega
      have e2 : (0 + (i : Int) + 1 + (j : Int)).toNat = i + 1 + j := by omega
      have i0 : 0 ≤ 0 + (i : Int) := by omega
      have j0 : 0 ≤ 0 + (i : Int) + 1 + (j : Int) := by omega
      have i1 : 0 + (i : Int) < (ms.length : Int) := by omega
      have j1 : 0 + (i : Int) + 1 + (j : Int) < (ms.length : Int) := by omega
      have i2 : 0 + (i : Int) < (ns.length : Int) := by omega
      have j2 : 0 + (i : Int) + 1 + (j : Int) < (ns.length : Int) := by omega
      have s1 : ms.length ≤ 64 := by omega
      have s2 : ns.length ≤ 64 := by omega
      (repeat' ((fail_if_success (with_reducible show wpAny _ _ (eval (Expr.BoolOp _ _ _) _) _ _ _)); (first | (k_unfold; (try dsimp only)) | ((fail_if_success (with_reducible show wpAny _ _ (pyIter _) _ _ _)); (fail_if_success (with_reducible show LCg.CompSrc _ _ _ _ _ _ _ _ _ _ _ _ _ _)); (fail_if_success (with_reducible show LCt.CompSrcT _ _ _ _ _ _ _ _ _ _ _ _ _ _ _)); first | with_reducible ((k_here; (with_reducible show wpAny _ _ (eval (Expr.Name _ _) (compEnvC _ _ _ _)) _ _ _); k_dflt (refine' lcf_cell ?zq19_N ?zq19_c ?zq19_m ?zq19_d ?_ ?zq19_a ?zq19_b; (case zq19_a => rfl); (case zq19_b => rfl); (case zq19_N => k_asm); (case zq19_c => rfl); (case zq19_m => k_mem); (case zq19_d => k_asm); k_whole))) | with_reducible ((k_here; (with_reducible show wpAny _ _ (subscriptTail _ _ (Value.ref _) (Value.int _ _)) _ _ _); (with_unfolding_all refine' itemK_N ?zq20_N ?zq20_V ?zq20_s0 ?zq20_lo ?zq20_hi ?zq20_sm ?_ ?zq20_hs; (case zq20_N => assumption); (case zq20_V => assumption); (case zq20_s0 => ((intro p hp; repeat (first | exact hp | refine List.mem_cons_of_mem _ ?_)))); (case zq20_lo => first | assumption | omega); (case zq20_hi => first | assumption | omega); (case zq20_sm => first | assumption | omega); (case zq20_hs => with_unfolding_all rfl); k_whole); intro b7_z x7_z y7_z n7_z hm7_z)) | with_reducible ((k_here; (with_reducible show wpAny _ _ (call (Value.builtin "len") [Value.ref _]) _ _ _); (refine' lenK_N ?zq21_N ?zq21_V ?zq21_s0 ?zq21_sm ?_; (case zq21_N => assumption); (case zq21_V => assumption); (case zq21_s0 => ((intro p hp; repeat (first | exact hp | refine List.mem_cons_of_mem _ ?_)))); (case zq21_sm => first | assumption | omega); k_whole))) | ((with_reducible show wpAny _ _ (call (Value.type "range") _) _ _ _); with_reducible ((k_here; first   | ((refine' range1_N ?zq22_F ?zq22_N ?_; (case zq22_F => assumption); (case zq22_N => assumption); k_whole); intro hq_z r7_z t71_z t73_z tk7_z hR7_z Fq_z Nq_z)   | ((refine' range2_N ?zq22_F ?zq22_N ?_; (case zq22_F => assumption); (case zq22_N => assumption); k_whole); intro hq_z r7_z t73_z tk7_z hR7_z Fq_z Nq_z)))) | with_reducible ((k_here; (with_reducible show wpAny _ _ (call (Value.builtin "len") [Value.ref _]) _ _ _); (refine' len_N ?zq23_N ?zq23_V ?zq23_s0 ?zq23_sm ?_; (case zq23_N => assumption); (case zq23_V => assumption); (case zq23_s0 => ((intro p hp; repeat (first | exact hp | refine List.mem_cons_of_mem _ ?_)))); (case zq23_sm => first | assumption | omega); k_whole))) | ((with_reducible show wpAny _ _ (compareOp CmpOp.NotEq (Value.ref _) (Value.ref _)) _ _ _); with_reducible ((k_here; (refine' ne_N ?zq24_N ?zq24_a ?zq24_Ma ?zq24_b ?zq24_Mb ?zq24_u ?_; (case zq24_N => assumption); (case zq24_a => exact List.mem_cons_of_mem _ (List.mem_cons_self)); (case zq24_Ma => assumption); (case zq24_b => exact List.mem_cons_self); (case zq24_Mb => assumption); (case zq24_u => (simp only [units_in1, units_deeper]; omega)); k_whole)))) | ((with_reducible show wpAny _ _ (call (Value.type "set") []) _ _ _); with_reducible ((k_here; (refine' set0_N ?zq25_F ?zq25_N ?_; (case zq25_F => assumption); (case zq25_N => assumption); k_whole); intro hq_z c7_z o7_z Fq_z Nq_z hI7_z hne7_z))) | ((with_reducible show wpAny _ _ (binaryOp Operator.BitAnd (Value.ref _) (Value.ref _)) _ _ _); with_reducible ((k_here; (refine' and_N ?zq26_F ?zq26_N ?zq26_a ?zq26_s0 ?zq26_Ma ?zq26_b ?zq26_s1 ?zq26_Mb ?_; (case zq26_F => assumption); (case zq26_N => assumption); (case zq26_a => assumption); (case zq26_s0 => ((intro p hp; repeat (first | exact hp | refine List.mem_cons_of_mem _ ?_)))); (case zq26_Ma => assumption); (case zq26_b => assumption); (case zq26_s1 => ((intro p hp; repeat (first | exact hp | refine List.mem_cons_of_mem _ ?_)))); (case zq26_Mb => assumption); k_whole); intro hq_z c7_z o7_z Fq_z Nq_z hI7_z hne7_z))) | with_reducible ((k_here; (with_reducible show wpAny _ _ (subscriptTail _ _ (Value.ref _) (Value.int _ _)) _ _ _); (with_unfolding_all refine' item_N ?zq27_N ?zq27_V ?zq27_s0 ?zq27_lo ?zq27_hi ?zq27_sm ?_ ?zq27_hs; (case zq27_N => assumption); (case zq27_V => assumption); (case zq27_s0 => ((intro p hp; repeat (first | exact hp | refine List.mem_cons_of_mem _ ?_)))); (case zq27_lo => first | assumption | omega); (case zq27_hi => first | assumption | omega); (case zq27_sm => first | assumption | omega); (case zq27_hs => with_unfolding_all rfl); k_whole); intro a7_z o7_z hm7_z hI7_z)) | walk1 | (dsimp only; first | with_reducible ((k_here; (with_reducible show wpAny _ _ (eval (Expr.Name _ _) (compEnvC _ _ _ _)) _ _ _); k_dflt (refine' lcf_cell ?zq19_N ?zq19_c ?zq19_m ?zq19_d ?_ ?zq19_a ?zq19_b; (case zq19_a => rfl); (case zq19_b => rfl); (case zq19_N => k_asm); (case zq19_c => rfl); (case zq19_m => k_mem); (case zq19_d => k_asm); k_whole))) | with_reducible ((k_here; (with_reducible show wpAny _ _ (subscriptTail _ _ (Value.ref _) (Value.int _ _)) _ _ _); (with_unfolding_all refine' itemK_N ?zq20_N ?zq20_V ?zq20_s0 ?zq20_lo ?zq20_hi ?zq20_sm ?_ ?zq20_hs; (case zq20_N => assumption); (case zq20_V => assumption); (case zq20_s0 => ((intro p hp; repeat (first | exact hp | refine List.mem_cons_of_mem _ ?_)))); (case zq20_lo => first | assumption | omega); (case zq20_hi => first | assumption | omega); (case zq20_sm => first | assumption | omega); (case zq20_hs => with_unfolding_all rfl); k_whole); intro b7_z x7_z y7_z n7_z hm7_z)) | with_reducible ((k_here; (with_reducible show wpAny _ _ (call (Value.builtin "len") [Value.ref _]) _ _ _); (refine' lenK_N ?zq21_N ?zq21_V ?zq21_s0 ?zq21_sm ?_; (case zq21_N => assumption); (case zq21_V => assumption); (case zq21_s0 => ((intro p hp; repeat (first | exact hp | refine List.mem_cons_of_mem _ ?_)))); (case zq21_sm => first | assumption | omega); k_whole))) | ((with_reducible show wpAny _ _ (call (Value.type "range") _) _ _ _); with_reducible ((k_here; first   | ((refine' range1_N ?zq22_F ?zq22_N ?_; (case zq22_F => assumption); (case zq22_N => assumption); k_whole); intro hq_z r7_z t71_z t73_z tk7_z hR7_z Fq_z Nq_z)   | ((refine' range2_N ?zq22_F ?zq22_N ?_; (case zq22_F => assumption); (case zq22_N => assumption); k_whole); intro hq_z r7_z t73_z tk7_z hR7_z Fq_z Nq_z)))) | with_reducible ((k_here; (with_reducible show wpAny _ _ (call (Value.builtin "len") [Value.ref _]) _ _ _); (refine' len_N ?zq23_N ?zq23_V ?zq23_s0 ?zq23_sm ?_; (case zq23_N => assumption); (case zq23_V => assumption); (case zq23_s0 => ((intro p hp; repeat (first | exact hp | refine List.mem_cons_of_mem _ ?_)))); (case zq23_sm => first | assumption | omega); k_whole))) | ((with_reducible show wpAny _ _ (compareOp CmpOp.NotEq (Value.ref _) (Value.ref _)) _ _ _); with_reducible ((k_here; (refine' ne_N ?zq24_N ?zq24_a ?zq24_Ma ?zq24_b ?zq24_Mb ?zq24_u ?_; (case zq24_N => assumption); (case zq24_a => exact List.mem_cons_of_mem _ (List.mem_cons_self)); (case zq24_Ma => assumption); (case zq24_b => exact List.mem_cons_self); (case zq24_Mb => assumption); (case zq24_u => (simp only [units_in1, units_deeper]; omega)); k_whole)))) | ((with_reducible show wpAny _ _ (call (Value.type "set") []) _ _ _); with_reducible ((k_here; (refine' set0_N ?zq25_F ?zq25_N ?_; (case zq25_F => assumption); (case zq25_N => assumption); k_whole); intro hq_z c7_z o7_z Fq_z Nq_z hI7_z hne7_z))) | ((with_reducible show wpAny _ _ (binaryOp Operator.BitAnd (Value.ref _) (Value.ref _)) _ _ _); with_reducible ((k_here; (refine' and_N ?zq26_F ?zq26_N ?zq26_a ?zq26_s0 ?zq26_Ma ?zq26_b ?zq26_s1 ?zq26_Mb ?_; (case zq26_F => assumption); (case zq26_N => assumption); (case zq26_a => assumption); (case zq26_s0 => ((intro p hp; repeat (first | exact hp | refine List.mem_cons_of_mem _ ?_)))); (case zq26_Ma => assumption); (case zq26_b => assumption); (case zq26_s1 => ((intro p hp; repeat (first | exact hp | refine List.mem_cons_of_mem _ ?_)))); (case zq26_Mb => assumption); k_whole); intro hq_z c7_z o7_z Fq_z Nq_z hI7_z hne7_z))) | with_reducible ((k_here; (with_reducible show wpAny _ _ (subscriptTail _ _ (Value.ref _) (Value.int _ _)) _ _ _); (with_unfolding_all refine' item_N ?zq27_N ?zq27_V ?zq27_s0 ?zq27_lo ?zq27_hi ?zq27_sm ?_ ?zq27_hs; (case zq27_N => assumption); (case zq27_V => assumption); (case zq27_s0 => ((intro p hp; repeat (first | exact hp | refine List.mem_cons_of_mem _ ?_)))); (case zq27_lo => first | assumption | omega); (case zq27_hi => first | assumption | omega); (case zq27_sm => first | assumption | omega); (case zq27_hs => with_unfolding_all rfl); k_whole); intro a7_z o7_z hm7_z hI7_z)) | walk1)))))
      refine cut (by assumption) (by assumption) (.bool (crossB ms ns i (i + 1 + j))) ?_ ?_
      · (repeat' ((first | (k_unfold; (try dsimp only)) | ((fail_if_success (with_reducible show wpAny _ _ (pyIter _) _ _ _)); (fail_if_success (with_reducible show LCg.CompSrc _ _ _ _ _ _ _ _ _ _ _ _ _ _)); (fail_if_success (with_reducible show LCt.CompSrcT _ _ _ _ _ _ _ _ _ _ _ _ _ _ _)); first | with_reducible ((k_here; (with_reducible show wpAny _ _ (eval (Expr.Name _ _) (compEnvC _ _ _ _)) _ _ _); k_dflt (refine' lcf_cell ?zq19_N ?zq19_c ?zq19_m ?zq19_d ?_ ?zq19_a ?zq19_b; (case zq19_a => rfl); (case zq19_b => rfl); (case zq19_N => k_asm); (case zq19_c => rfl); (case zq19_m => k_mem); (case zq19_d => k_asm); k_whole))) | with_reducible ((k_here; (with_reducible show wpAny _ _ (subscriptTail _ _ (Value.ref _) (Value.int _ _)) _ _ _); (with_unfolding_all refine' itemK_N ?zq20_N ?zq20_V ?zq20_s0 ?zq20_lo ?zq20_hi ?zq20_sm ?_ ?zq20_hs; (case zq20_N => assumption); (case zq20_V => assumption); (case zq20_s0 => ((intro p hp; repeat (first | exact hp | refine List.mem_cons_of_mem _ ?_)))); (case zq20_lo => first | assumption | omega); (case zq20_hi => first | assumption | omega); (case zq20_sm => first | assumption | omega); (case zq20_hs => with_unfolding_all rfl); k_whole); intro b7_z x7_z y7_z n7_z hm7_z)) | with_reducible ((k_here; (with_reducible show wpAny _ _ (call (Value.builtin "len") [Value.ref _]) _ _ _); (refine' lenK_N ?zq21_N ?zq21_V ?zq21_s0 ?zq21_sm ?_; (case zq21_N => assumption); (case zq21_V => assumption); (case zq21_s0 => ((intro p hp; repeat (first | exact hp | refine List.mem_cons_of_mem _ ?_)))); (case zq21_sm => first | assumption | omega); k_whole))) | ((with_reducible show wpAny _ _ (call (Value.type "range") _) _ _ _); with_reducible ((k_here; first   | ((refine' range1_N ?zq22_F ?zq22_N ?_; (case zq22_F => assumption); (case zq22_N => assumption); k_whole); intro hq_z r7_z t71_z t73_z tk7_z hR7_z Fq_z Nq_z)   | ((refine' range2_N ?zq22_F ?zq22_N ?_; (case zq22_F => assumption); (case zq22_N => assumption); k_whole); intro hq_z r7_z t73_z tk7_z hR7_z Fq_z Nq_z)))) | with_reducible ((k_here; (with_reducible show wpAny _ _ (call (Value.builtin "len") [Value.ref _]) _ _ _); (refine' len_N ?zq23_N ?zq23_V ?zq23_s0 ?zq23_sm ?_; (case zq23_N => assumption); (case zq23_V => assumption); (case zq23_s0 => ((intro p hp; repeat (first | exact hp | refine List.mem_cons_of_mem _ ?_)))); (case zq23_sm => first | assumption | omega); k_whole))) | ((with_reducible show wpAny _ _ (compareOp CmpOp.NotEq (Value.ref _) (Value.ref _)) _ _ _); with_reducible ((k_here; (refine' ne_N ?zq24_N ?zq24_a ?zq24_Ma ?zq24_b ?zq24_Mb ?zq24_u ?_; (case zq24_N => assumption); (case zq24_a => exact List.mem_cons_of_mem _ (List.mem_cons_self)); (case zq24_Ma => assumption); (case zq24_b => exact List.mem_cons_self); (case zq24_Mb => assumption); (case zq24_u => (simp only [units_in1, units_deeper]; omega)); k_whole)))) | ((with_reducible show wpAny _ _ (call (Value.type "set") []) _ _ _); with_reducible ((k_here; (refine' set0_N ?zq25_F ?zq25_N ?_; (case zq25_F => assumption); (case zq25_N => assumption); k_whole); intro hq_z c7_z o7_z Fq_z Nq_z hI7_z hne7_z))) | ((with_reducible show wpAny _ _ (binaryOp Operator.BitAnd (Value.ref _) (Value.ref _)) _ _ _); with_reducible ((k_here; (refine' and_N ?zq26_F ?zq26_N ?zq26_a ?zq26_s0 ?zq26_Ma ?zq26_b ?zq26_s1 ?zq26_Mb ?_; (case zq26_F => assumption); (case zq26_N => assumption); (case zq26_a => assumption); (case zq26_s0 => ((intro p hp; repeat (first | exact hp | refine List.mem_cons_of_mem _ ?_)))); (case zq26_Ma => assumption); (case zq26_b => assumption); (case zq26_s1 => ((intro p hp; repeat (first | exact hp | refine List.mem_cons_of_mem _ ?_)))); (case zq26_Mb => assumption); k_whole); intro hq_z c7_z o7_z Fq_z Nq_z hI7_z hne7_z))) | with_reducible ((k_here; (with_reducible show wpAny _ _ (subscriptTail _ _ (Value.ref _) (Value.int _ _)) _ _ _); (with_unfolding_all refine' item_N ?zq27_N ?zq27_V ?zq27_s0 ?zq27_lo ?zq27_hi ?zq27_sm ?_ ?zq27_hs; (case zq27_N => assumption); (case zq27_V => assumption); (case zq27_s0 => ((intro p hp; repeat (first | exact hp | refine List.mem_cons_of_mem _ ?_)))); (case zq27_lo => first | assumption | omega); (case zq27_hi => first | assumption | omega); (case zq27_sm => first | assumption | omega); (case zq27_hs => with_unfolding_all rfl); k_whole); intro a7_z o7_z hm7_z hI7_z)) | walk1 | (dsimp only; first | with_reducible ((k_here; (with_reducible show wpAny _ _ (eval (Expr.Name _ _) (compEnvC _ _ _ _)) _ _ _); k_dflt (refine' lcf_cell ?zq19_N ?zq19_c ?zq19_m ?zq19_d ?_ ?zq19_a ?zq19_b; (case zq19_a => rfl); (case zq19_b => rfl); (case zq19_N => k_asm); (case zq19_c => rfl); (case zq19_m => k_mem); (case zq19_d => k_asm); k_whole))) | with_reducible ((k_here; (with_reducible show wpAny _ _ (subscriptTail _ _ (Value.ref _) (Value.int _ _)) _ _ _); (with_unfolding_all refine' itemK_N ?zq20_N ?zq20_V ?zq20_s0 ?zq20_lo ?zq20_hi ?zq20_sm ?_ ?zq20_hs; (case zq20_N => assumption); (case zq20_V => assumption); (case zq20_s0 => ((intro p hp; repeat (first | exact hp | refine List.mem_cons_of_mem _ ?_)))); (case zq20_lo => first | assumption | omega); (case zq20_hi => first | assumption | omega); (case zq20_sm => first | assumption | omega); (case zq20_hs => with_unfolding_all rfl); k_whole); intro b7_z x7_z y7_z n7_z hm7_z)) | with_reducible ((k_here; (with_reducible show wpAny _ _ (call (Value.builtin "len") [Value.ref _]) _ _ _); (refine' lenK_N ?zq21_N ?zq21_V ?zq21_s0 ?zq21_sm ?_; (case zq21_N => assumption); (case zq21_V => assumption); (case zq21_s0 => ((intro p hp; repeat (first | exact hp | refine List.mem_cons_of_mem _ ?_)))); (case zq21_sm => first | assumption | omega); k_whole))) | ((with_reducible show wpAny _ _ (call (Value.type "range") _) _ _ _); with_reducible ((k_here; first   | ((refine' range1_N ?zq22_F ?zq22_N ?_; (case zq22_F => assumption); (case zq22_N => assumption); k_whole); intro hq_z r7_z t71_z t73_z tk7_z hR7_z Fq_z Nq_z)   | ((refine' range2_N ?zq22_F ?zq22_N ?_; (case zq22_F => assumption); (case zq22_N => assumption); k_whole); intro hq_z r7_z t73_z tk7_z hR7_z Fq_z Nq_z)))) | with_reducible ((k_here; (with_reducible show wpAny _ _ (call (Value.builtin "len") [Value.ref _]) _ _ _); (refine' len_N ?zq23_N ?zq23_V ?zq23_s0 ?zq23_sm ?_; (case zq23_N => assumption); (case zq23_V => assumption); (case zq23_s0 => ((intro p hp; repeat (first | exact hp | refine List.mem_cons_of_mem _ ?_)))); (case zq23_sm => first | assumption | omega); k_whole))) | ((with_reducible show wpAny _ _ (compareOp CmpOp.NotEq (Value.ref _) (Value.ref _)) _ _ _); with_reducible ((k_here; (refine' ne_N ?zq24_N ?zq24_a ?zq24_Ma ?zq24_b ?zq24_Mb ?zq24_u ?_; (case zq24_N => assumption); (case zq24_a => exact List.mem_cons_of_mem _ (List.mem_cons_self)); (case zq24_Ma => assumption); (case zq24_b => exact List.mem_cons_self); (case zq24_Mb => assumption); (case zq24_u => (simp only [units_in1, units_deeper]; omega)); k_whole)))) | ((with_reducible show wpAny _ _ (call (Value.type "set") []) _ _ _); with_reducible ((k_here; (refine' set0_N ?zq25_F ?zq25_N ?_; (case zq25_F => assumption); (case zq25_N => assumption); k_whole); intro hq_z c7_z o7_z Fq_z Nq_z hI7_z hne7_z))) | ((with_reducible show wpAny _ _ (binaryOp Operator.BitAnd (Value.ref _) (Value.ref _)) _ _ _); with_reducible ((k_here; (refine' and_N ?zq26_F ?zq26_N ?zq26_a ?zq26_s0 ?zq26_Ma ?zq26_b ?zq26_s1 ?zq26_Mb ?_; (case zq26_F => assumption); (case zq26_N => assumption); (case zq26_a => assumption); (case zq26_s0 => ((intro p hp; repeat (first | exact hp | refine List.mem_cons_of_mem _ ?_)))); (case zq26_Ma => assumption); (case zq26_b => assumption); (case zq26_s1 => ((intro p hp; repeat (first | exact hp | refine List.mem_cons_of_mem _ ?_)))); (case zq26_Mb => assumption); k_whole); intro hq_z c7_z o7_z Fq_z Nq_z hI7_z hne7_z))) | with_reducible ((k_here; (with_reducible show wpAny _ _ (subscriptTail _ _ (Value.ref _) (Value.int _ _)) _ _ _); (with_unfolding_all refine' item_N ?zq27_N ?zq27_V ?zq27_s0 ?zq27_lo ?zq27_hi ?zq27_sm ?_ ?zq27_hs; (case zq27_N => assumption); (case zq27_V => assumption); (case zq27_s0 => ((intro p hp; repeat (first | exact hp | refine List.mem_cons_of_mem _ ?_)))); (case zq27_lo => first | assumption | omega); (case zq27_hi => first | assumption | omega); (case zq27_sm => first | assumption | omega); (case zq27_hs => with_unfolding_all rfl); k_whole); intro a7_z o7_z hm7_z hI7_z)) | walk1)))))
        · rename_i hc; rw [e1, e2] at hc
          exact Cut.intro (by rw [e1, e2, crossB, decide_eq_true hc]; rfl) (by assumption) (by assumption) (by ((intro p hp; repeat (first | exact hp | refine List.mem_cons_of_mem _ ?_))))
        · have hn : ¬ (ms.getD (0 + (i : Int)).toNat 0 &&& ns.getD (0 + (i : Int) + 1 + (j : Int)).toNat 0 ≠ 0) := by assumption
          rw [e1, e2] at hn
          exact Cut.intro (by rw [e1, e2, crossB, decide_eq_false hn]; rfl) (by assumption) (by assumption) (by ((intro p hp; repeat (first | exact hp | refine List.mem_cons_of_mem _ ?_))))
      · intro h5 tk5 F5 N5
        (repeat' ((fail_if_success (with_reducible show wpAny _ _ (eval (Expr.BoolOp _ _ _) _) _ _ _)); (first | (k_unfold; (try dsimp only)) | ((fail_if_success (with_reducible show wpAny _ _ (pyIter _) _ _ _)); (fail_if_success (with_reducible show LCg.CompSrc _ _ _ _ _ _ _ _ _ _ _ _ _ _)); (fail_if_success (with_reducible show LCt.CompSrcT _ _ _ _ _ _ _ _ _ _ _ _ _ _ _)); first | with_reducible ((k_here; (with_reducible show wpAny _ _ (eval (Expr.Name _ _) (compEnvC _ _ _ _)) _ _ _); k_dflt (refine' lcf_cell ?zq19_N ?zq19_c ?zq19_m ?zq19_d ?_ ?zq19_a ?zq19_b; (case zq19_a => rfl); (case zq19_b => rfl); (case zq19_N => k_asm); (case zq19_c => rfl); (case zq19_m => k_mem); (case zq19_d => k_asm); k_whole))) | with_reducible ((k_here; (with_reducible show wpAny _ _ (subscriptTail _ _ (Value.ref _) (Value.int _ _)) _ _ _); (with_unfolding_all refine' itemK_N ?zq20_N ?zq20_V ?zq20_s0 ?zq20_lo ?zq20_hi ?zq20_sm ?_ ?zq20_hs; (case zq20_N => assumption); (case zq20_V => assumption); (case zq20_s0 => ((intro p hp; repeat (first | exact hp | refine List.mem_cons_of_mem _ ?_)))); (case zq20_lo => first | assumption | omega); (case zq20_hi => first | assumption | omega); (case zq20_sm => first | assumption | omega); (case zq20_hs => with_unfolding_all rfl); k_whole); intro b7_z x7_z y7_z n7_z hm7_z)) | with_reducible ((k_here; (with_reducible show wpAny _ _ (call (Value.builtin "len") [Value.ref _]) _ _ _); (refine' lenK_N ?zq21_N ?zq21_V ?zq21_s0 ?zq21_sm ?_; (case zq21_N => assumption); (case zq21_V => assumption); (case zq21_s0 => ((intro p hp; repeat (first | exact hp | refine List.mem_cons_of_mem _ ?_)))); (case zq21_sm => first | assumption | omega); k_whole))) | ((with_reducible show wpAny _ _ (call (Value.type "range") _) _ _ _); with_reducible ((k_here; first   | ((refine' range1_N ?zq22_F ?zq22_N ?_; (case zq22_F => assumption); (case zq22_N => assumption); k_whole); intro hq_z r7_z t71_z t73_z tk7_z hR7_z Fq_z Nq_z)   | ((refine' range2_N ?zq22_F ?zq22_N ?_; (case zq22_F => assumption); (case zq22_N => assumption); k_whole); intro hq_z r7_z t73_z tk7_z hR7_z Fq_z Nq_z)))) | with_reducible ((k_here; (with_reducible show wpAny _ _ (call (Value.builtin "len") [Value.ref _]) _ _ _); (refine' len_N ?zq23_N ?zq23_V ?zq23_s0 ?zq23_sm ?_; (case zq23_N => assumption); (case zq23_V => assumption); (case zq23_s0 => ((intro p hp; repeat (first | exact hp | refine List.mem_cons_of_mem _ ?_)))); (case zq23_sm => first | assumption | omega); k_whole))) | ((with_reducible show wpAny _ _ (compareOp CmpOp.NotEq (Value.ref _) (Value.ref _)) _ _ _); with_reducible ((k_here; (refine' ne_N ?zq24_N ?zq24_a ?zq24_Ma ?zq24_b ?zq24_Mb ?zq24_u ?_; (case zq24_N => assumption); (case zq24_a => exact List.mem_cons_of_mem _ (List.mem_cons_self)); (case zq24_Ma => assumption); (case zq24_b => exact List.mem_cons_self); (case zq24_Mb => assumption); (case zq24_u => (simp only [units_in1, units_deeper]; omega)); k_whole)))) | ((with_reducible show wpAny _ _ (call (Value.type "set") []) _ _ _); with_reducible ((k_here; (refine' set0_N ?zq25_F ?zq25_N ?_; (case zq25_F => assumption); (case zq25_N => assumption); k_whole); intro hq_z c7_z o7_z Fq_z Nq_z hI7_z hne7_z))) | ((with_reducible show wpAny _ _ (binaryOp Operator.BitAnd (Value.ref _) (Value.ref _)) _ _ _); with_reducible ((k_here; (refine' and_N ?zq26_F ?zq26_N ?zq26_a ?zq26_s0 ?zq26_Ma ?zq26_b ?zq26_s1 ?zq26_Mb ?_; (case zq26_F => assumption); (case zq26_N => assumption); (case zq26_a => assumption); (case zq26_s0 => ((intro p hp; repeat (first | exact hp | refine List.mem_cons_of_mem _ ?_)))); (case zq26_Ma => assumption); (case zq26_b => assumption); (case zq26_s1 => ((intro p hp; repeat (first | exact hp | refine List.mem_cons_of_mem _ ?_)))); (case zq26_Mb => assumption); k_whole); intro hq_z c7_z o7_z Fq_z Nq_z hI7_z hne7_z))) | with_reducible ((k_here; (with_reducible show wpAny _ _ (subscriptTail _ _ (Value.ref _) (Value.int _ _)) _ _ _); (with_unfolding_all refine' item_N ?zq27_N ?zq27_V ?zq27_s0 ?zq27_lo ?zq27_hi ?zq27_sm ?_ ?zq27_hs; (case zq27_N => assumption); (case zq27_V => assumption); (case zq27_s0 => ((intro p hp; repeat (first | exact hp | refine List.mem_cons_of_mem _ ?_)))); (case zq27_lo => first | assumption | omega); (case zq27_hi => first | assumption | omega); (case zq27_sm => first | assumption | omega); (case zq27_hs => with_unfolding_all rfl); k_whole); intro a7_z o7_z hm7_z hI7_z)) | walk1 | (dsimp only; first | with_reducible ((k_here; (with_reducible show wpAny _ _ (eval (Expr.Name _ _) (compEnvC _ _ _ _)) _ _ _); k_dflt (refine' lcf_cell ?zq19_N ?zq19_c ?zq19_m ?zq19_d ?_ ?zq19_a ?zq19_b; (case zq19_a => rfl); (case zq19_b => rfl); (case zq19_N => k_asm); (case zq19_c => rfl); (case zq19_m => k_mem); (case zq19_d => k_asm); k_whole))) | with_reducible ((k_here; (with_reducible show wpAny _ _ (subscriptTail _ _ (Value.ref _) (Value.int _ _)) _ _ _); (with_unfolding_all refine' itemK_N ?zq20_N ?zq20_V ?zq20_s0 ?zq20_lo ?zq20_hi ?zq20_sm ?_ ?zq20_hs; (case zq20_N => assumption); (case zq20_V => assumption); (case zq20_s0 => ((intro p hp; repeat (first | exact hp | refine List.mem_cons_of_mem _ ?_)))); (case zq20_lo => first | assumption | omega); (case zq20_hi => first | assumption | omega); (case zq20_sm => first | assumption | omega); (case zq20_hs => with_unfolding_all rfl); k_whole); intro b7_z x7_z y7_z n7_z hm7_z)) | with_reducible ((k_here; (with_reducible show wpAny _ _ (call (Value.builtin "len") [Value.ref _]) _ _ _); (refine' lenK_N ?zq21_N ?zq21_V ?zq21_s0 ?zq21_sm ?_; (case zq21_N => assumption); (case zq21_V => assumption); (case zq21_s0 => ((intro p hp; repeat (first | exact hp | refine List.mem_cons_of_mem _ ?_)))); (case zq21_sm => first | assumption | omega); k_whole))) | ((with_reducible show wpAny _ _ (call (Value.type "range") _) _ _ _); with_reducible ((k_here; first   | ((refine' range1_N ?zq22_F ?zq22_N ?_; (case zq22_F => assumption); (case zq22_N => assumption); k_whole); intro hq_z r7_z t71_z t73_z tk7_z hR7_z Fq_z Nq_z)   | ((refine' range2_N ?zq22_F ?zq22_N ?_; (case zq22_F => assumption); (case zq22_N => assumption); k_whole); intro hq_z r7_z t73_z tk7_z hR7_z Fq_z Nq_z)))) | with_reducible ((k_here; (with_reducible show wpAny _ _ (call (Value.builtin "len") [Value.ref _]) _ _ _); (refine' len_N ?zq23_N ?zq23_V ?zq23_s0 ?zq23_sm ?_; (case zq23_N => assumption); (case zq23_V => assumption); (case zq23_s0 => ((intro p hp; repeat (first | exact hp | refine List.mem_cons_of_mem _ ?_)))); (case zq23_sm => first | assumption | omega); k_whole))) | ((with_reducible show wpAny _ _ (compareOp CmpOp.NotEq (Value.ref _) (Value.ref _)) _ _ _); with_reducible ((k_here; (refine' ne_N ?zq24_N ?zq24_a ?zq24_Ma ?zq24_b ?zq24_Mb ?zq24_u ?_; (case zq24_N => assumption); (case zq24_a => exact List.mem_cons_of_mem _ (List.mem_cons_self)); (case zq24_Ma => assumption); (case zq24_b => exact List.mem_cons_self); (case zq24_Mb => assumption); (case zq24_u => (simp only [units_in1, units_deeper]; omega)); k_whole)))) | ((with_reducible show wpAny _ _ (call (Value.type "set") []) _ _ _); with_reducible ((k_here; (refine' set0_N ?zq25_F ?zq25_N ?_; (case zq25_F => assumption); (case zq25_N => assumption); k_whole); intro hq_z c7_z o7_z Fq_z Nq_z hI7_z hne7_z))) | ((with_reducible show wpAny _ _ (binaryOp Operator.BitAnd (Value.ref _) (Value.ref _)) _ _ _); with_reducible ((k_here; (refine' and_N ?zq26_F ?zq26_N ?zq26_a ?zq26_s0 ?zq26_Ma ?zq26_b ?zq26_s1 ?zq26_Mb ?_; (case zq26_F => assumption); (case zq26_N => assumption); (case zq26_a => assumption); (case zq26_s0 => ((intro p hp; repeat (first | exact hp | refine List.mem_cons_of_mem _ ?_)))); (case zq26_Ma => assumption); (case zq26_b => assumption); (case zq26_s1 => ((intro p hp; repeat (first | exact hp | refine List.mem_cons_of_mem _ ?_)))); (case zq26_Mb => assumption); k_whole); intro hq_z c7_z o7_z Fq_z Nq_z hI7_z hne7_z))) | with_reducible ((k_here; (with_reducible show wpAny _ _ (subscriptTail _ _ (Value.ref _) (Value.int _ _)) _ _ _); (with_unfolding_all refine' item_N ?zq27_N ?zq27_V ?zq27_s0 ?zq27_lo ?zq27_hi ?zq27_sm ?_ ?zq27_hs; (case zq27_N => assumption); (case zq27_V => assumption); (case zq27_s0 => ((intro p hp; repeat (first | exact hp | refine List.mem_cons_of_mem _ ?_)))); (case zq27_lo => first | assumption | omega); (case zq27_hi => first | assumption | omega); (case zq27_sm => first | assumption | omega); (case zq27_hs => with_unfolding_all rfl); k_whole); intro a7_z o7_z hm7_z hI7_z)) | walk1)))))
        refine cut (by assumption) (by assumption) (.bool (shareB ms ns i (i + 1 + j))) ?_ ?_
        · (repeat' ((first | (k_unfold; (try dsimp only)) | ((fail_if_success (with_reducible show wpAny _ _ (pyIter _) _ _ _)); (fail_if_success (with_reducible show LCg.CompSrc _ _ _ _ _ _ _ _ _ _ _ _ _ _)); (fail_if_success (with_reducible show LCt.CompSrcT _ _ _ _ _ _ _ _ _ _ _ _ _ _ _)); first | with_reducible ((k_here; (with_reducible show wpAny _ _ (eval (Expr.Name _ _) (compEnvC _ _ _ _)) _ _ _); k_dflt (refine' lcf_cell ?zq19_N ?zq19_c ?zq19_m ?zq19_d ?_ ?zq19_a ?zq19_b; (case zq19_a => rfl); (case zq19_b => rfl); (case zq19_N => k_asm); (case zq19_c => rfl); (case zq19_m => k_mem); (case zq19_d => k_asm); k_whole))) | with_reducible ((k_here; (with_reducible show wpAny _ _ (subscriptTail _ _ (Value.ref _) (Value.int _ _)) _ _ _); (with_unfolding_all refine' itemK_N ?zq20_N ?zq20_V ?zq20_s0 ?zq20_lo ?zq20_hi ?zq20_sm ?_ ?zq20_hs; (case zq20_N => assumption); (case zq20_V => assumption); (case zq20_s0 => ((intro p hp; repeat (first | exact hp | refine List.mem_cons_of_mem _ ?_)))); (case zq20_lo => first | assumption | omega); (case zq20_hi => first | assumption | omega); (case zq20_sm => first | assumption | omega); (case zq20_hs => with_unfolding_all rfl); k_whole); intro b7_z x7_z y7_z n7_z hm7_z)) | with_reducible ((k_here; (with_reducible show wpAny _ _ (call (Value.builtin "len") [Value.ref _]) _ _ _); (refine' lenK_N ?zq21_N ?zq21_V ?zq21_s0 ?zq21_sm ?_; (case zq21_N => assumption); (case zq21_V => assumption); (case zq21_s0 => ((intro p hp; repeat (first | exact hp | refine List.mem_cons_of_mem _ ?_)))); (case zq21_sm => first | assumption | omega); k_whole))) | ((with_reducible show wpAny _ _ (call (Value.type "range") _) _ _ _); with_reducible ((k_here; first   | ((refine' range1_N ?zq22_F ?zq22_N ?_; (case zq22_F => assumption); (case zq22_N => assumption); k_whole); intro hq_z r7_z t71_z t73_z tk7_z hR7_z Fq_z Nq_z)   | ((refine' range2_N ?zq22_F ?zq22_N ?_; (case zq22_F => assumption); (case zq22_N => assumption); k_whole); intro hq_z r7_z t73_z tk7_z hR7_z Fq_z Nq_z)))) | with_reducible ((k_here; (with_reducible show wpAny _ _ (call (Value.builtin "len") [Value.ref _]) _ _ _); (refine' len_N ?zq23_N ?zq23_V ?zq23_s0 ?zq23_sm ?_; (case zq23_N => assumption); (case zq23_V => assumption); (case zq23_s0 => ((intro p hp; repeat (first | exact hp | refine List.mem_cons_of_mem _ ?_)))); (case zq23_sm => first | assumption | omega); k_whole))) | ((with_reducible show wpAny _ _ (compareOp CmpOp.NotEq (Value.ref _) (Value.ref _)) _ _ _); with_reducible ((k_here; (refine' ne_N ?zq24_N ?zq24_a ?zq24_Ma ?zq24_b ?zq24_Mb ?zq24_u ?_; (case zq24_N => assumption); (case zq24_a => exact List.mem_cons_of_mem _ (List.mem_cons_self)); (case zq24_Ma => assumption); (case zq24_b => exact List.mem_cons_self); (case zq24_Mb => assumption); (case zq24_u => (simp only [units_in1, units_deeper]; omega)); k_whole)))) | ((with_reducible show wpAny _ _ (call (Value.type "set") []) _ _ _); with_reducible ((k_here; (refine' set0_N ?zq25_F ?zq25_N ?_; (case zq25_F => assumption); (case zq25_N => assumption); k_whole); intro hq_z c7_z o7_z Fq_z Nq_z hI7_z hne7_z))) | ((with_reducible show wpAny _ _ (binaryOp Operator.BitAnd (Value.ref _) (Value.ref _)) _ _ _); with_reducible ((k_here; (refine' and_N ?zq26_F ?zq26_N ?zq26_a ?zq26_s0 ?zq26_Ma ?zq26_b ?zq26_s1 ?zq26_Mb ?_; (case zq26_F => assumption); (case zq26_N => assumption); (case zq26_a => assumption); (case zq26_s0 => ((intro p hp; repeat (first | exact hp | refine List.mem_cons_of_mem _ ?_)))); (case zq26_Ma => assumption); (case zq26_b => assumption); (case zq26_s1 => ((intro p hp; repeat (first | exact hp | refine List.mem_cons_of_mem _ ?_)))); (case zq26_Mb => assumption); k_whole); intro hq_z c7_z o7_z Fq_z Nq_z hI7_z hne7_z))) | with_reducible ((k_here; (with_reducible show wpAny _ _ (subscriptTail _ _ (Value.ref _) (Value.int _ _)) _ _ _); (with_unfolding_all refine' item_N ?zq27_N ?zq27_V ?zq27_s0 ?zq27_lo ?zq27_hi ?zq27_sm ?_ ?zq27_hs; (case zq27_N => assumption); (case zq27_V => assumption); (case zq27_s0 => ((intro p hp; repeat (first | exact hp | refine List.mem_cons_of_mem _ ?_)))); (case zq27_lo => first | assumption | omega); (case zq27_hi => first | assumption | omega); (case zq27_sm => first | assumption | omega); (case zq27_hs => with_unfolding_all rfl); k_whole); intro a7_z o7_z hm7_z hI7_z)) | walk1 | (dsimp only; first | with_reducible ((k_here; (with_reducible show wpAny _ _ (eval (Expr.Name _ _) (compEnvC _ _ _ _)) _ _ _); k_dflt (refine' lcf_cell ?zq19_N ?zq19_c ?zq19_m ?zq19_d ?_ ?zq19_a ?zq19_b; (case zq19_a => rfl); (case zq19_b => rfl); (case zq19_N => k_asm); (case zq19_c => rfl); (case zq19_m => k_mem); (case zq19_d => k_asm); k_whole))) | with_reducible ((k_here; (with_reducible show wpAny _ _ (subscriptTail _ _ (Value.ref _) (Value.int _ _)) _ _ _); (with_unfolding_all refine' itemK_N ?zq20_N ?zq20_V ?zq20_s0 ?zq20_lo ?zq20_hi ?zq20_sm ?_ ?zq20_hs; (case zq20_N => assumption); (case zq20_V => assumption); (case zq20_s0 => ((intro p hp; repeat (first | exact hp | refine List.mem_cons_of_mem _ ?_)))); (case zq20_lo => first | assumption | omega); (case zq20_hi => first | assumption | omega); (case zq20_sm => first | assumption | omega); (case zq20_hs => with_unfolding_all rfl); k_whole); intro b7_z x7_z y7_z n7_z hm7_z)) | with_reducible ((k_here; (with_reducible show wpAny _ _ (call (Value.builtin "len") [Value.ref _]) _ _ _); (refine' lenK_N ?zq21_N ?zq21_V ?zq21_s0 ?zq21_sm ?_; (case zq21_N => assumption); (case zq21_V => assumption); (case zq21_s0 => ((intro p hp; repeat (first | exact hp | refine List.mem_cons_of_mem _ ?_)))); (case zq21_sm => first | assumption | omega); k_whole))) | ((with_reducible show wpAny _ _ (call (Value.type "range") _) _ _ _); with_reducible ((k_here; first   | ((refine' range1_N ?zq22_F ?zq22_N ?_; (case zq22_F => assumption); (case zq22_N => assumption); k_whole); intro hq_z r7_z t71_z t73_z tk7_z hR7_z Fq_z Nq_z)   | ((refine' range2_N ?zq22_F ?zq22_N ?_; (case zq22_F => assumption); (case zq22_N => assumption); k_whole); intro hq_z r7_z t73_z tk7_z hR7_z Fq_z Nq_z)))) | with_reducible ((k_here; (with_reducible show wpAny _ _ (call (Value.builtin "len") [Value.ref _]) _ _ _); (refine' len_N ?zq23_N ?zq23_V ?zq23_s0 ?zq23_sm ?_; (case zq23_N => assumption); (case zq23_V => assumption); (case zq23_s0 => ((intro p hp; repeat (first | exact hp | refine List.mem_cons_of_mem _ ?_)))); (case zq23_sm => first | assumption | omega); k_whole))) | ((with_reducible show wpAny _ _ (compareOp CmpOp.NotEq (Value.ref _) (Value.ref _)) _ _ _); with_reducible ((k_here; (refine' ne_N ?zq24_N ?zq24_a ?zq24_Ma ?zq24_b ?zq24_Mb ?zq24_u ?_; (case zq24_N => assumption); (case zq24_a => exact List.mem_cons_of_mem _ (List.mem_cons_self)); (case zq24_Ma => assumption); (case zq24_b => exact List.mem_cons_self); (case zq24_Mb => assumption); (case zq24_u => (simp only [units_in1, units_deeper]; omega)); k_whole)))) | ((with_reducible show wpAny _ _ (call (Value.type "set") []) _ _ _); with_reducible ((k_here; (refine' set0_N ?zq25_F ?zq25_N ?_; (case zq25_F => assumption); (case zq25_N => assumption); k_whole); intro hq_z c7_z o7_z Fq_z Nq_z hI7_z hne7_z))) | ((with_reducible show wpAny _ _ (binaryOp Operator.BitAnd (Value.ref _) (Value.ref _)) _ _ _); with_reducible ((k_here; (refine' and_N ?zq26_F ?zq26_N ?zq26_a ?zq26_s0 ?zq26_Ma ?zq26_b ?zq26_s1 ?zq26_Mb ?_; (case zq26_F => assumption); (case zq26_N => assumption); (case zq26_a => assumption); (case zq26_s0 => ((intro p hp; repeat (first | exact hp | refine List.mem_cons_of_mem _ ?_)))); (case zq26_Ma => assumption); (case zq26_b => assumption); (case zq26_s1 => ((intro p hp; repeat (first | exact hp | refine List.mem_cons_of_mem _ ?_)))); (case zq26_Mb => assumption); k_whole); intro hq_z c7_z o7_z Fq_z Nq_z hI7_z hne7_z))) | with_reducible ((k_here; (with_reducible show wpAny _ _ (subscriptTail _ _ (Value.ref _) (Value.int _ _)) _ _ _); (with_unfolding_all refine' item_N ?zq27_N ?zq27_V ?zq27_s0 ?zq27_lo ?zq27_hi ?zq27_sm ?_ ?zq27_hs; (case zq27_N => assumption); (case zq27_V => assumption); (case zq27_s0 => ((intro p hp; repeat (first | exact hp | refine List.mem_cons_of_mem _ ?_)))); (case zq27_lo => first | assumption | omega); (case zq27_hi => first | assumption | omega); (case zq27_sm => first | assumption | omega); (case zq27_hs => with_unfolding_all rfl); k_whole); intro a7_z o7_z hm7_z hI7_z)) | walk1)))))
          · rename_i hc; rw [e1, e2] at hc
            exact Cut.intro (by rw [e1, e2, shareB, decide_eq_true hc]; rfl) (by assumption) (by assumption) (by ((intro p hp; repeat (first | exact hp | refine List.mem_cons_of_mem _ ?_))))
          · have hn : ¬ (ms.getD (0 + (i : Int)).toNat 0 &&& ms.getD (0 + (i : Int) + 1 + (j : Int)).toNat 0 ≠ 0) := by assumption
            rw [e1, e2] at hn
            exact Cut.intro (by rw [e1, e2, shareB, decide_eq_false hn]; rfl) (by assumption) (by assumption) (by ((intro p hp; repeat (first | exact hp | refine List.mem_cons_of_mem _ ?_))))
        · intro h6 tk6 F6 N6
          (repeat' ((first | (k_unfold; (try dsimp only)) | ((fail_if_success (with_reducible show wpAny _ _ (pyIter _) _ _ _)); (fail_if_success (with_reducible show LCg.CompSrc _ _ _ _ _ _ _ _ _ _ _ _ _ _)); (fail_if_success (with_reducible show LCt.CompSrcT _ _ _ _ _ _ _ _ _ _ _ _ _ _ _)); first | with_reducible ((k_here; (with_reducible show wpAny _ _ (eval (Expr.Name _ _) (compEnvC _ _ _ _)) _ _ _); k_dflt (refine' lcf_cell ?zq19_N ?zq19_c ?zq19_m ?zq19_d ?_ ?zq19_a ?zq19_b; (case zq19_a => rfl); (case zq19_b => rfl); (case zq19_N => k_asm); (case zq19_c => rfl); (case zq19_m => k_mem); (case zq19_d => k_asm); k_whole))) | with_reducible ((k_here; (with_reducible show wpAny _ _ (subscriptTail _ _ (Value.ref _) (Value.int _ _)) _ _ _); (with_unfolding_all refine' itemK_N ?zq20_N ?zq20_V ?zq20_s0 ?zq20_lo ?zq20_hi ?zq20_sm ?_ ?zq20_hs; (case zq20_N => assumption); (case zq20_V => assumption); (case zq20_s0 => ((intro p hp; repeat (first | exact hp | refine List.mem_cons_of_mem _ ?_)))); (case zq20_lo => first | assumption | omega); (case zq20_hi => first | assumption | omega); (case zq20_sm => first | assumption | omega); (case zq20_hs => with_unfolding_all rfl); k_whole); intro b7_z x7_z y7_z n7_z hm7_z)) | with_reducible ((k_here; (with_reducible show wpAny _ _ (call (Value.builtin "len") [Value.ref _]) _ _ _); (refine' lenK_N ?zq21_N ?zq21_V ?zq21_s0 ?zq21_sm ?_; (case zq21_N => assumption); (case zq21_V => assumption); (case zq21_s0 => ((intro p hp; repeat (first | exact hp | refine List.mem_cons_of_mem _ ?_)))); (case zq21_sm => first | assumption | omega); k_whole))) | ((with_reducible show wpAny _ _ (call (Value.type "range") _) _ _ _); with_reducible ((k_here; first   | ((refine' range1_N ?zq22_F ?zq22_N ?_; (case zq22_F => assumption); (case zq22_N => assumption); k_whole); intro hq_z r7_z t71_z t73_z tk7_z hR7_z Fq_z Nq_z)   | ((refine' range2_N ?zq22_F ?zq22_N ?_; (case zq22_F => assumption); (case zq22_N => assumption); k_whole); intro hq_z r7_z t73_z tk7_z hR7_z Fq_z Nq_z)))) | with_reducible ((k_here; (with_reducible show wpAny _ _ (call (Value.builtin "len") [Value.ref _]) _ _ _); (refine' len_N ?zq23_N ?zq23_V ?zq23_s0 ?zq23_sm ?_; (case zq23_N => assumption); (case zq23_V => assumption); (case zq23_s0 => ((intro p hp; repeat (first | exact hp | refine List.mem_cons_of_mem _ ?_)))); (case zq23_sm => first | assumption | omega); k_whole))) | ((with_reducible show wpAny _ _ (compareOp CmpOp.NotEq (Value.ref _) (Value.ref _)) _ _ _); with_reducible ((k_here; (refine' ne_N ?zq24_N ?zq24_a ?zq24_Ma ?zq24_b ?zq24_Mb ?zq24_u ?_; (case zq24_N => assumption); (case zq24_a => exact List.mem_cons_of_mem _ (List.mem_cons_self)); (case zq24_Ma => assumption); (case zq24_b => exact List.mem_cons_self); (case zq24_Mb => assumption); (case zq24_u => (simp only [units_in1, units_deeper]; omega)); k_whole)))) | ((with_reducible show wpAny _ _ (call (Value.type "set") []) _ _ _); with_reducible ((k_here; (refine' set0_N ?zq25_F ?zq25_N ?_; (case zq25_F => assumption); (case zq25_N => assumption); k_whole); intro hq_z c7_z o7_z Fq_z Nq_z hI7_z hne7_z))) | ((with_reducible show wpAny _ _ (binaryOp Operator.BitAnd (Value.ref _) (Value.ref _)) _ _ _); with_reducible ((k_here; (refine' and_N ?zq26_F ?zq26_N ?zq26_a ?zq26_s0 ?zq26_Ma ?zq26_b ?zq26_s1 ?zq26_Mb ?_; (case zq26_F => assumption); (case zq26_N => assumption); (case zq26_a => assumption); (case zq26_s0 => ((intro p hp; repeat (first | exact hp | refine List.mem_cons_of_mem _ ?_)))); (case zq26_Ma => assumption); (case zq26_b => assumption); (case zq26_s1 => ((intro p hp; repeat (first | exact hp | refine List.mem_cons_of_mem _ ?_)))); (case zq26_Mb => assumption); k_whole); intro hq_z c7_z o7_z Fq_z Nq_z hI7_z hne7_z))) | with_reducible ((k_here; (with_reducible show wpAny _ _ (subscriptTail _ _ (Value.ref _) (Value.int _ _)) _ _ _); (with_unfolding_all refine' item_N ?zq27_N ?zq27_V ?zq27_s0 ?zq27_lo ?zq27_hi ?zq27_sm ?_ ?zq27_hs; (case zq27_N => assumption); (case zq27_V => assumption); (case zq27_s0 => ((intro p hp; repeat (first | exact hp | refine List.mem_cons_of_mem _ ?_)))); (case zq27_lo => first | assumption | omega); (case zq27_hi => first | assumption | omega); (case zq27_sm => first | assumption | omega); (case zq27_hs => with_unfolding_all rfl); k_whole); intro a7_z o7_z hm7_z hI7_z)) | walk1 | (dsimp only; first | with_reducible ((k_here; (with_reducible show wpAny _ _ (eval (Expr.Name _ _) (compEnvC _ _ _ _)) _ _ _); k_dflt (refine' lcf_cell ?zq19_N ?zq19_c ?zq19_m ?zq19_d ?_ ?zq19_a ?zq19_b; (case zq19_a => rfl); (case zq19_b => rfl); (case zq19_N => k_asm); (case zq19_c => rfl); (case zq19_m => k_mem); (case zq19_d => k_asm); k_whole))) | with_reducible ((k_here; (with_reducible show wpAny _ _ (subscriptTail _ _ (Value.ref _) (Value.int _ _)) _ _ _); (with_unfolding_all refine' itemK_N ?zq20_N ?zq20_V ?zq20_s0 ?zq20_lo ?zq20_hi ?zq20_sm ?_ ?zq20_hs; (case zq20_N => assumption); (case zq20_V => assumption); (case zq20_s0 => ((intro p hp; repeat (first | exact hp | refine List.mem_cons_of_mem _ ?_)))); (case zq20_lo => first | assumption | omega); (case zq20_hi => first | assumption | omega); (case zq20_sm => first | assumption | omega); (case zq20_hs => with_unfolding_all rfl); k_whole); intro b7_z x7_z y7_z n7_z hm7_z)) | with_reducible ((k_here; (with_reducible show wpAny _ _ (call (Value.builtin "len") [Value.ref _]) _ _ _); (refine' lenK_N ?zq21_N ?zq21_V ?zq21_s0 ?zq21_sm ?_; (case zq21_N => assumption); (case zq21_V => assumption); (case zq21_s0 => ((intro p hp; repeat (first | exact hp | refine List.mem_cons_of_mem _ ?_)))); (case zq21_sm => first | assumption | omega); k_whole))) | ((with_reducible show wpAny _ _ (call (Value.type "range") _) _ _ _); with_reducible ((k_here; first   | ((refine' range1_N ?zq22_F ?zq22_N ?_; (case zq22_F => assumption); (case zq22_N => assumption); k_whole); intro hq_z r7_z t71_z t73_z tk7_z hR7_z Fq_z Nq_z)   | ((refine' range2_N ?zq22_F ?zq22_N ?_; (case zq22_F => assumption); (case zq22_N => assumption); k_whole); intro hq_z r7_z t73_z tk7_z hR7_z Fq_z Nq_z)))) | with_reducible ((k_here; (with_reducible show wpAny _ _ (call (Value.builtin "len") [Value.ref _]) _ _ _); (refine' len_N ?zq23_N ?zq23_V ?zq23_s0 ?zq23_sm ?_; (case zq23_N => assumption); (case zq23_V => assumption); (case zq23_s0 => ((intro p hp; repeat (first | exact hp | refine List.mem_cons_of_mem _ ?_)))); (case zq23_sm => first | assumption | omega); k_whole))) | ((with_reducible show wpAny _ _ (compareOp CmpOp.NotEq (Value.ref _) (Value.ref _)) _ _ _); with_reducible ((k_here; (refine' ne_N ?zq24_N ?zq24_a ?zq24_Ma ?zq24_b ?zq24_Mb ?zq24_u ?_; (case zq24_N => assumption); (case zq24_a => exact List.mem_cons_of_mem _ (List.mem_cons_self)); (case zq24_Ma => assumption); (case zq24_b => exact List.mem_cons_self); (case zq24_Mb => assumption); (case zq24_u => (simp only [units_in1, units_deeper]; omega)); k_whole)))) | ((with_reducible show wpAny _ _ (call (Value.type "set") []) _ _ _); with_reducible ((k_here; (refine' set0_N ?zq25_F ?zq25_N ?_; (case zq25_F => assumption); (case zq25_N => assumption); k_whole); intro hq_z c7_z o7_z Fq_z Nq_z hI7_z hne7_z))) | ((with_reducible show wpAny _ _ (binaryOp Operator.BitAnd (Value.ref _) (Value.ref _)) _ _ _); with_reducible ((k_here; (refine' and_N ?zq26_F ?zq26_N ?zq26_a ?zq26_s0 ?zq26_Ma ?zq26_b ?zq26_s1 ?zq26_Mb ?_; (case zq26_F => assumption); (case zq26_N => assumption); (case zq26_a => assumption); (case zq26_s0 => ((intro p hp; repeat (first | exact hp | refine List.mem_cons_of_mem _ ?_)))); (case zq26_Ma => assumption); (case zq26_b => assumption); (case zq26_s1 => ((intro p hp; repeat (first | exact hp | refine List.mem_cons_of_mem _ ?_)))); (case zq26_Mb => assumption); k_whole); intro hq_z c7_z o7_z Fq_z Nq_z hI7_z hne7_z))) | with_reducible ((k_here; (with_reducible show wpAny _ _ (subscriptTail _ _ (Value.ref _) (Value.int _ _)) _ _ _); (with_unfolding_all refine' item_N ?zq27_N ?zq27_V ?zq27_s0 ?zq27_lo ?zq27_hi ?zq27_sm ?_ ?zq27_hs; (case zq27_N => assumption); (case zq27_V => assumption); (case zq27_s0 => ((intro p hp; repeat (first | exact hp | refine List.mem_cons_of_mem _ ?_)))); (case zq27_lo => first | assumption | omega); (case zq27_hi => first | assumption | omega); (case zq27_sm => first | assumption | omega); (case zq27_hs => with_unfolding_all rfl); k_whole); intro a7_z o7_z hm7_z hI7_z)) | walk1)))))
          · have c1 : crossB ms ns i (i + 1 + j) = true := by assumption
            have c2 : shareB ms ns i (i + 1 + j) = true := by assumption
            refine ⟨_, _, _, (I, o) :: news, rfl, by assumption, News.sub (by assumption) (by ((intro p hp; repeat (first | exact hp | refine List.mem_cons_of_mem _ ?_)))), hoff3, ⟨rfl, fun j' h1 h2 => ?_⟩, fun y h1 h2 => ?_⟩
            · by_cases hj' : j' = i + 1 + j
              · subst hj'; rw [badB, c1, c2]; rfl
              · exact hP3 j' h1 (by omega)
            · have h3 : ¬ y = Str.ofString "is_crossed" := fun q => by simp [q] at h2
              have h4 : ¬ y = Str.ofString "is_shared" := fun q => by simp [q] at h2
              simp [h1, h3, h4]
          · have c1 : crossB ms ns i (i + 1 + j) = true := by assumption
            have c2 : shareB ms ns i (i + 1 + j) = false := by assumption
            have e : goesB ms ns = false := goesB_false (i := i) (j := i + 1 + j) (by omega) (by omega) (by rw [badB, c1, c2]; rfl)
            rw [e] at ret
            (try dsimp only [TurnG])
            (repeat' ((first | (k_unfold; (try dsimp only)) | ((fail_if_success (with_reducible show wpAny _ _ (pyIter _) _ _ _)); (fail_if_success (with_reducible show LCg.CompSrc _ _ _ _ _ _ _ _ _ _ _ _ _ _)); (fail_if_success (with_reducible show LCt.CompSrcT _ _ _ _ _ _ _ _ _ _ _ _ _ _ _)); first | with_reducible ((k_here; (with_reducible show wpAny _ _ (eval (Expr.Name _ _) (compEnvC _ _ _ _)) _ _ _); k_dflt (refine' lcf_cell ?zq19_N ?zq19_c ?zq19_m ?zq19_d ?_ ?zq19_a ?zq19_b; (case zq19_a => rfl); (case zq19_b => rfl); (case zq19_N => k_asm); (case zq19_c => rfl); (case zq19_m => k_mem); (case zq19_d => k_asm); k_whole))) | with_reducible ((k_here; (with_reducible show wpAny _ _ (subscriptTail _ _ (Value.ref _) (Value.int _ _)) _ _ _); (with_unfolding_all refine' itemK_N ?zq20_N ?zq20_V ?zq20_s0 ?zq20_lo ?zq20_hi ?zq20_sm ?_ ?zq20_hs; (case zq20_N => assumption); (case zq20_V => assumption); (case zq20_s0 => ((intro p hp; repeat (first | exact hp | refine List.mem_cons_of_mem _ ?_)))); (case zq20_lo => first | assumption | omega); (case zq20_hi => first | assumption | omega); (case zq20_sm => first | assumption | omega); (case zq20_hs => with_unfolding_all rfl); k_whole); intro b7_z x7_z y7_z n7_z hm7_z)) | with_reducible ((k_here; (with_reducible show wpAny _ _ (call (Value.builtin "len") [Value.ref _]) _ _ _); (refine' lenK_N ?zq21_N ?zq21_V ?zq21_s0 ?zq21_sm ?_; (case zq21_N => assumption); (case zq21_V => assumption); (case zq21_s0 => ((intro p hp; repeat (first | exact hp | refine List.mem_cons_of_mem _ ?_)))); (case zq21_sm => first | assumption | omega); k_whole))) | ((with_reducible show wpAny _ _ (call (Value.type "range") _) _ _ _); with_reducible ((k_here; first   | ((refine' range1_N ?zq22_F ?zq22_N ?_; (case zq22_F => assumption); (case zq22_N => assumption); k_whole); intro hq_z r7_z t71_z t73_z tk7_z hR7_z Fq_z Nq_z)   | ((refine' range2_N ?zq22_F ?zq22_N ?_; (case zq22_F => assumption); (case zq22_N => assumption); k_whole); intro hq_z r7_z t73_z tk7_z hR7_z Fq_z Nq_z)))) | with_reducible ((k_here; (with_reducible show wpAny _ _ (call (Value.builtin "len") [Value.ref _]) _ _ _); (refine' len_N ?zq23_N ?zq23_V ?zq23_s0 ?zq23_sm ?_; (case zq23_N => assumption); (case zq23_V => assumption); (case zq23_s0 => ((intro p hp; repeat (first | exact hp | refine List.mem_cons_of_mem _ ?_)))); (case zq23_sm => first | assumption | omega); k_whole))) | ((with_reducible show wpAny _ _ (compareOp CmpOp.NotEq (Value.ref _) (Value.ref _)) _ _ _); with_reducible ((k_here; (refine' ne_N ?zq24_N ?zq24_a ?zq24_Ma ?zq24_b ?zq24_Mb ?zq24_u ?_; (case zq24_N => assumption); (case zq24_a => exact List.mem_cons_of_mem _ (List.mem_cons_self)); (case zq24_Ma => assumption); (case zq24_b => exact List.mem_cons_self); (case zq24_Mb => assumption); (case zq24_u => (simp only [units_in1, units_deeper]; omega)); k_whole)))) | ((with_reducible show wpAny _ _ (call (Value.type "set") []) _ _ _); with_reducible ((k_here; (refine' set0_N ?zq25_F ?zq25_N ?_; (case zq25_F => assumption); (case zq25_N => assumption); k_whole); intro hq_z c7_z o7_z Fq_z Nq_z hI7_z hne7_z))) | ((with_reducible show wpAny _ _ (binaryOp Operator.BitAnd (Value.ref _) (Value.ref _)) _ _ _); with_reducible ((k_here; (refine' and_N ?zq26_F ?zq26_N ?zq26_a ?zq26_s0 ?zq26_Ma ?zq26_b ?zq26_s1 ?zq26_Mb ?_; (case zq26_F => assumption); (case zq26_N => assumption); (case zq26_a => assumption); (case zq26_s0 => ((intro p hp; repeat (first | exact hp | refine List.mem_cons_of_mem _ ?_)))); (case zq26_Ma => assumption); (case zq26_b => assumption); (case zq26_s1 => ((intro p hp; repeat (first | exact hp | refine List.mem_cons_of_mem _ ?_)))); (case zq26_Mb => assumption); k_whole); intro hq_z c7_z o7_z Fq_z Nq_z hI7_z hne7_z))) | with_reducible ((k_here; (with_reducible show wpAny _ _ (subscriptTail _ _ (Value.ref _) (Value.int _ _)) _ _ _); (with_unfolding_all refine' item_N ?zq27_N ?zq27_V ?zq27_s0 ?zq27_lo ?zq27_hi ?zq27_sm ?_ ?zq27_hs; (case zq27_N => assumption); (case zq27_V => assumption); (case zq27_s0 => ((intro p hp; repeat (first | exact hp | refine List.mem_cons_of_mem _ ?_)))); (case zq27_lo => first | assumption | omega); (case zq27_hi => first | assumption | omega); (case zq27_sm => first | assumption | omega); (case zq27_hs => with_unfolding_all rfl); k_whole); intro a7_z o7_z hm7_z hI7_z)) | walk1 | (dsimp only; first | with_reducible ((k_here; (with_reducible show wpAny _ _ (eval (Expr.Name _ _) (compEnvC _ _ _ _)) _ _ _); k_dflt (refine' lcf_cell ?zq19_N ?zq19_c ?zq19_m ?zq19_d ?_ ?zq19_a ?zq19_b; (case zq19_a => rfl); (case zq19_b => rfl); (case zq19_N => k_asm); (case zq19_c => rfl); (case zq19_m => k_mem); (case zq19_d => k_asm); k_whole))) | with_reducible ((k_here; (with_reducible show wpAny _ _ (subscriptTail _ _ (Value.ref _) (Value.int _ _)) _ _ _); (with_unfolding_all refine' itemK_N ?zq20_N ?zq20_V ?zq20_s0 ?zq20_lo ?zq20_hi ?zq20_sm ?_ ?zq20_hs; (case zq20_N => assumption); (case zq20_V => assumption); (case zq20_s0 => ((intro p hp; repeat (first | exact hp | refine List.mem_cons_of_mem _ ?_)))); (case zq20_lo => first | assumption | omega); (case zq20_hi => first | assumption | omega); (case zq20_sm => first | assumption | omega); (case zq20_hs => with_unfolding_all rfl); k_whole); intro b7_z x7_z y7_z n7_z hm7_z)) | with_reducible ((k_here; (with_reducible show wpAny _ _ (call (Value.builtin "len") [Value.ref _]) _ _ _); (refine' lenK_N ?zq21_N ?zq21_V ?zq21_s0 ?zq21_sm ?_; (case zq21_N => assumption); (case zq21_V => assumption); (case zq21_s0 => ((intro p hp; repeat (first | exact hp | refine List.mem_cons_of_mem _ ?_)))); (case zq21_sm => first | assumption | omega); k_whole))) | ((with_reducible show wpAny _ _ (call (Value.type "range") _) _ _ _); with_reducible ((k_here; first   | ((refine' range1_N ?zq22_F ?zq22_N ?_; (case zq22_F => assumption); (case zq22_N => assumption); k_whole); intro hq_z r7_z t71_z t73_z tk7_z hR7_z Fq_z Nq_z)   | ((refine' range2_N ?zq22_F ?zq22_N ?_; (case zq22_F => assumption); (case zq22_N => assumption); k_whole); intro hq_z r7_z t73_z tk7_z hR7_z Fq_z Nq_z)))) | with_reducible ((k_here; (with_reducible show wpAny _ _ (call (Value.builtin "len") [Value.ref _]) _ _ _); (refine' len_N ?zq23_N ?zq23_V ?zq23_s0 ?zq23_sm ?_; (case zq23_N => assumption); (case zq23_V => assumption); (case zq23_s0 => ((intro p hp; repeat (first | exact hp | refine List.mem_cons_of_mem _ ?_)))); (case zq23_sm => first | assumption | omega); k_whole))) | ((with_reducible show wpAny _ _ (compareOp CmpOp.NotEq (Value.ref _) (Value.ref _)) _ _ _); with_reducible ((k_here; (refine' ne_N ?zq24_N ?zq24_a ?zq24_Ma ?zq24_b ?zq24_Mb ?zq24_u ?_; (case zq24_N => assumption); (case zq24_a => exact List.mem_cons_of_mem _ (List.mem_cons_self)); (case zq24_Ma => assumption); (case zq24_b => exact List.mem_cons_self); (case zq24_Mb => assumption); (case zq24_u => (simp only [units_in1, units_deeper]; omega)); k_whole)))) | ((with_reducible show wpAny _ _ (call (Value.type "set") []) _ _ _); with_reducible ((k_here; (refine' set0_N ?zq25_F ?zq25_N ?_; (case zq25_F => assumption); (case zq25_N => assumption); k_whole); intro hq_z c7_z o7_z Fq_z Nq_z hI7_z hne7_z))) | ((with_reducible show wpAny _ _ (binaryOp Operator.BitAnd (Value.ref _) (Value.ref _)) _ _ _); with_reducible ((k_here; (refine' and_N ?zq26_F ?zq26_N ?zq26_a ?zq26_s0 ?zq26_Ma ?zq26_b ?zq26_s1 ?zq26_Mb ?_; (case zq26_F => assumption); (case zq26_N => assumption); (case zq26_a => assumption); (case zq26_s0 => ((intro p hp; repeat (first | exact hp | refine List.mem_cons_of_mem _ ?_)))); (case zq26_Ma => assumption); (case zq26_b => assumption); (case zq26_s1 => ((intro p hp; repeat (first | exact hp | refine List.mem_cons_of_mem _ ?_)))); (case zq26_Mb => assumption); k_whole); intro hq_z c7_z o7_z Fq_z Nq_z hI7_z hne7_z))) | with_reducible ((k_here; (with_reducible show wpAny _ _ (subscriptTail _ _ (Value.ref _) (Value.int _ _)) _ _ _); (with_unfolding_all refine' item_N ?zq27_N ?zq27_V ?zq27_s0 ?zq27_lo ?zq27_hi ?zq27_sm ?_ ?zq27_hs; (case zq27_N => assumption); (case zq27_V => assumption); (case zq27_s0 => ((intro p hp; repeat (first | exact hp | refine List.mem_cons_of_mem _ ?_)))); (case zq27_lo => first | assumption | omega); (case zq27_hi => first | assumption | omega); (case zq27_sm => first | assumption | omega); (case zq27_hs => with_unfolding_all rfl); k_whole); intro a7_z o7_z hm7_z hI7_z)) | walk1)))))
            exact ret [_, _] _ _ (by assumption) (by assumption)
          · have c1 : crossB ms ns i (i + 1 + j) = false := by assumption
            refine ⟨_, _, _, (I, o) :: news, rfl, by assumption, News.sub (by assumption) (by ((intro p hp; repeat (first | exact hp | refine List.mem_cons_of_mem _ ?_)))), hoff3, ⟨rfl, fun j' h1 h2 => ?_⟩, fun y h1 h2 => ?_⟩
            · by_cases hj' : j' = i + 1 + j
              · subst hj'; rw [badB, c1]; rfl
              · exact hP3 j' h1 (by omega)
            · have h3 : ¬ y = Str.ofString "is_crossed" := fun q => by simp [q] at h2
              have h4 : ¬ y = Str.ofString "is_shared" := fun q => by simp [q] at h2
              simp [h1, h3, h4]
    case done2 =>
      rintro u4 h4 tk4 led4 ⟨eL, hP4⟩ F4 N4
      subst led4
      (repeat' ((first | (k_unfold; (try dsimp only)) | ((fail_if_success (with_reducible show wpAny _ _ (pyIter _) _ _ _)); (fail_if_success (with_reducible show LCg.CompSrc _ _ _ _ _ _ _ _ _ _ _ _ _ _)); (fail_if_success (with_reducible show LCt.CompSrcT _ _ _ _ _ _ _ _ _ _ _ _ _ _ _)); first | with_reducible ((k_here; (with_reducible show wpAny _ _ (eval (Expr.Name _ _) (compEnvC _ _ _ _)) _ _ _); k_dflt (refine' lcf_cell ?zq19_N ?zq19_c ?zq19_m ?zq19_d ?_ ?zq19_a ?zq19_b; (case zq19_a => rfl); (case zq19_b => rfl); (case zq19_N => k_asm); (case zq19_c => rfl); (case zq19_m => k_mem); (case zq19_d => k_asm); k_whole))) | with_reducible ((k_here; (with_reducible show wpAny _ _ (subscriptTail _ _ (Value.ref _) (Value.int _ _)) _ _ _); (with_unfolding_all refine' itemK_N ?zq20_N ?zq20_V ?zq20_s0 ?zq20_lo ?zq20_hi ?zq20_sm ?_ ?zq20_hs; (case zq20_N => assumption); (case zq20_V => assumption); (case zq20_s0 => ((intro p hp; repeat (first | exact hp | refine List.mem_cons_of_mem _ ?_)))); (case zq20_lo => first | assumption | omega); (case zq20_hi => first | assumption | omega); (case zq20_sm => first | assumption | omega); (case zq20_hs => with_unfolding_all rfl); k_whole); intro b7_z x7_z y7_z n7_z hm7_z)) | with_reducible ((k_here; (with_reducible show wpAny _ _ (call (Value.builtin "len") [Value.ref _]) _ _ _); (refine' lenK_N ?zq21_N ?zq21_V ?zq21_s0 ?zq21_sm ?_; (case zq21_N => assumption); (case zq21_V => assumption); (case zq21_s0 => ((intro p hp; repeat (first | exact hp | refine List.mem_cons_of_mem _ ?_)))); (case zq21_sm => first | assumption | omega); k_whole))) | ((with_reducible show wpAny _ _ (call (Value.type "range") _) _ _ _); with_reducible ((k_here; first   | ((refine' range1_N ?zq22_F ?zq22_N ?_; (case zq22_F => assumption); (case zq22_N => assumption); k_whole); intro hq_z r7_z t71_z t73_z tk7_z hR7_z Fq_z Nq_z)   | ((refine' range2_N ?zq22_F ?zq22_N ?_; (case zq22_F => assumption); (case zq22_N => assumption); k_whole); intro hq_z r7_z t73_z tk7_z hR7_z Fq_z Nq_z)))) | with_reducible ((k_here; (with_reducible show wpAny _ _ (call (Value.builtin "len") [Value.ref _]) _ _ _); (refine' len_N ?zq23_N ?zq23_V ?zq23_s0 ?zq23_sm ?_; (case zq23_N => assumption); (case zq23_V => assumption); (case zq23_s0 => ((intro p hp; repeat (first | exact hp | refine List.mem_cons_of_mem _ ?_)))); (case zq23_sm => first | assumption | omega); k_whole))) | ((with_reducible show wpAny _ _ (compareOp CmpOp.NotEq (Value.ref _) (Value.ref _)) _ _ _); with_reducible ((k_here; (refine' ne_N ?zq24_N ?zq24_a ?zq24_Ma ?zq24_b ?zq24_Mb ?zq24_u ?_; (case zq24_N => assumption); (case zq24_a => exact List.mem_cons_of_mem _ (List.mem_cons_self)); (case zq24_Ma => assumption); (case zq24_b => exact List.mem_cons_self); (case zq24_Mb => assumption); (case zq24_u => (simp only [units_in1, units_deeper]; omega)); k_whole)))) | ((with_reducible show wpAny _ _ (call (Value.type "set") []) _ _ _); with_reducible ((k_here; (refine' set0_N ?zq25_F ?zq25_N ?_; (case zq25_F => assumption); (case zq25_N => assumption); k_whole); intro hq_z c7_z o7_z Fq_z Nq_z hI7_z hne7_z))) | ((with_reducible show wpAny _ _ (binaryOp Operator.BitAnd (Value.ref _) (Value.ref _)) _ _ _); with_reducible ((k_here; (refine' and_N ?zq26_F ?zq26_N ?zq26_a ?zq26_s0 ?zq26_Ma ?zq26_b ?zq26_s1 ?zq26_Mb ?_; (case zq26_F => assumption); (case zq26_N => assumption); (case zq26_a => assumption); (case zq26_s0 => ((intro p hp; repeat (first | exact hp | refine List.mem_cons_of_mem _ ?_)))); (case zq26_Ma => assumption); (case zq26_b => assumption); (case zq26_s1 => ((intro p hp; repeat (first | exact hp | refine List.mem_cons_of_mem _ ?_)))); (case zq26_Mb => assumption); k_whole); intro hq_z c7_z o7_z Fq_z Nq_z hI7_z hne7_z))) | with_reducible ((k_here; (with_reducible show wpAny _ _ (subscriptTail _ _ (Value.ref _) (Value.int _ _)) _ _ _); (with_unfolding_all refine' item_N ?zq27_N ?zq27_V ?zq27_s0 ?zq27_lo ?zq27_hi ?zq27_sm ?_ ?zq27_hs; (case zq27_N => assumption); (case zq27_V => assumption); (case zq27_s0 => ((intro p hp; repeat (first | exact hp | refine List.mem_cons_of_mem _ ?_)))); (case zq27_lo => first | assumption | omega); (case zq27_hi => first | assumption | omega); (case zq27_sm => first | assumption | omega); (case zq27_hs => with_unfolding_all rfl); k_whole); intro a7_z o7_z hm7_z hI7_z)) | walk1 | (dsimp only; first | with_reducible ((k_here; (with_reducible show wpAny _ _ (eval (Expr.Name _ _) (compEnvC _ _ _ _)) _ _ _); k_dflt (refine' lcf_cell ?zq19_N ?zq19_c ?zq19_m ?zq19_d ?_ ?zq19_a ?zq19_b; (case zq19_a => rfl); (case zq19_b => rfl); (case zq19_N => k_asm); (case zq19_c => rfl); (case zq19_m => k_mem); (case zq19_d => k_asm); k_whole))) | with_reducible ((k_here; (with_reducible show wpAny _ _ (subscriptTail _ _ (Value.ref _) (Value.int _ _)) _ _ _); (with_unfolding_all refine' itemK_N ?zq20_N ?zq20_V ?zq20_s0 ?zq20_lo ?zq20_hi ?zq20_sm ?_ ?zq20_hs; (case zq20_N => assumption); (case zq20_V => assumption); (case zq20_s0 => ((intro p hp; repeat (first | exact hp | refine List.mem_cons_of_mem _ ?_)))); (case zq20_lo => first | assumption | omega); (case zq20_hi => first | assumption | omega); (case zq20_sm => first | assumption | omega); (case zq20_hs => with_unfolding_all rfl); k_whole); intro b7_z x7_z y7_z n7_z hm7_z)) | with_reducible ((k_here; (with_reducible show wpAny _ _ (call (Value.builtin "len") [Value.ref _]) _ _ _); (refine' lenK_N ?zq21_N ?zq21_V ?zq21_s0 ?zq21_sm ?_; (case zq21_N => assumption); (case zq21_V => assumption); (case zq21_s0 => ((intro p hp; repeat (first | exact hp | refine List.mem_cons_of_mem _ ?_)))); (case zq21_sm => first | assumption | omega); k_whole))) | ((with_reducible show wpAny _ _ (call (Value.type "range") _) _ _ _); with_reducible ((k_here; first   | ((refine' range1_N ?zq22_F ?zq22_N ?_; (case zq22_F => assumption); (case zq22_N => assumption); k_whole); intro hq_z r7_z t71_z t73_z tk7_z hR7_z Fq_z Nq_z)   | ((refine' range2_N ?zq22_F ?zq22_N ?_; (case zq22_F => assumption); (case zq22_N => assumption); k_whole); intro hq_z r7_z t73_z tk7_z hR7_z Fq_z Nq_z)))) | with_reducible ((k_here; (with_reducible show wpAny _ _ (call (Value.builtin "len") [Value.ref _]) _ _ _); (refine' len_N ?zq23_N ?zq23_V ?zq23_s0 ?zq23_sm ?_; (case zq23_N => assumption); (case zq23_V => assumption); (case zq23_s0 => ((intro p hp; repeat (first | exact hp | refine List.mem_cons_of_mem _ ?_)))); (case zq23_sm => first | assumption | omega); k_whole))) | ((with_reducible show wpAny _ _ (compareOp CmpOp.NotEq (Value.ref _) (Value.ref _)) _ _ _); with_reducible ((k_here; (refine' ne_N ?zq24_N ?zq24_a ?zq24_Ma ?zq24_b ?zq24_Mb ?zq24_u ?_; (case zq24_N => assumption); (case zq24_a => exact List.mem_cons_of_mem _ (List.mem_cons_self)); (case zq24_Ma => assumption); (case zq24_b => exact List.mem_cons_self); (case zq24_Mb => assumption); (case zq24_u => (simp only [units_in1, units_deeper]; omega)); k_whole)))) | ((with_reducible show wpAny _ _ (call (Value.type "set") []) _ _ _); with_reducible ((k_here; (refine' set0_N ?zq25_F ?zq25_N ?_; (case zq25_F => assumption); (case zq25_N => assumption); k_whole); intro hq_z c7_z o7_z Fq_z Nq_z hI7_z hne7_z))) | ((with_reducible show wpAny _ _ (binaryOp Operator.BitAnd (Value.ref _) (Value.ref _)) _ _ _); with_reducible ((k_here; (refine' and_N ?zq26_F ?zq26_N ?zq26_a ?zq26_s0 ?zq26_Ma ?zq26_b ?zq26_s1 ?zq26_Mb ?_; (case zq26_F => assumption); (case zq26_N => assumption); (case zq26_a => assumption); (case zq26_s0 => ((intro p hp; repeat (first | exact hp | refine List.mem_cons_of_mem _ ?_)))); (case zq26_Ma => assumption); (case zq26_b => assumption); (case zq26_s1 => ((intro p hp; repeat (first | exact hp | refine List.mem_cons_of_mem _ ?_)))); (case zq26_Mb => assumption); k_whole); intro hq_z c7_z o7_z Fq_z Nq_z hI7_z hne7_z))) | with_reducible ((k_here; (with_reducible show wpAny _ _ (subscriptTail _ _ (Value.ref _) (Value.int _ _)) _ _ _); (with_unfolding_all refine' item_N ?zq27_N ?zq27_V ?zq27_s0 ?zq27_lo ?zq27_hi ?zq27_sm ?_ ?zq27_hs; (case zq27_N => assumption); (case zq27_V => assumption); (case zq27_s0 => ((intro p hp; repeat (first | exact hp | refine List.mem_cons_of_mem _ ?_)))); (case zq27_lo => first | assumption | omega); (case zq27_hi => first | assumption | omega); (case zq27_sm => first | assumption | omega); (case zq27_hs => with_unfolding_all rfl); k_whole); intro a7_z o7_z hm7_z hI7_z)) | walk1)))))
      refine ⟨_, _, _, news, rfl, by assumption, ?_, hoff, ⟨rfl, ?_⟩, ?_⟩
      · exact N4
      · intro i' h1 j' h2 h3
        by_cases hi' : i' = i
        · subst hi'; exact hP4 j' h2 (by omega)
        · exact hP i' (by omega) j' h2 h3
      · intro y h1 h2
        have h3 : ¬ y = Str.ofString "j" := fun q => by simp [q] at h2
        have h4 : ¬ y = Str.ofString "is_crossed" := fun q => by simp [q] at h2
        have h5 : ¬ y = Str.ofString "is_shared" := fun q => by simp [q] at h2
        simp [h1, h3, h4, h5]
  case done =>
    rintro u4 h4 tk4 led4 ⟨eL, hP4⟩ F4 N4
    subst led4
    rw [goesB_true hP4] at ret
    (repeat' ((first | (k_unfold; (try dsimp only)) | ((fail_if_success (with_reducible show wpAny _ _ (pyIter _) _ _ _)); (fail_if_success (with_reducible show LCg.CompSrc _ _ _ _ _ _ _ _ _ _ _ _ _ _)); (fail_if_success (with_reducible show LCt.CompSrcT _ _ _ _ _ _ _ _ _ _ _ _ _ _ _)); first | with_reducible ((k_here; (with_reducible show wpAny _ _ (eval (Expr.Name _ _) (compEnvC _ _ _ _)) _ _ _); k_dflt (refine' lcf_cell ?zq19_N ?zq19_c ?zq19_m ?zq19_d ?_ ?zq19_a ?zq19_b; (case zq19_a => rfl); (case zq19_b => rfl); (case zq19_N => k_asm); (case zq19_c => rfl); (case zq19_m => k_mem); (case zq19_d => k_asm); k_whole))) | with_reducible ((k_here; (with_reducible show wpAny _ _ (subscriptTail _ _ (Value.ref _) (Value.int _ _)) _ _ _); (with_unfolding_all refine' itemK_N ?zq20_N ?zq20_V ?zq20_s0 ?zq20_lo ?zq20_hi ?zq20_sm ?_ ?zq20_hs; (case zq20_N => assumption); (case zq20_V => assumption); (case zq20_s0 => ((intro p hp; repeat (first | exact hp | refine List.mem_cons_of_mem _ ?_)))); (case zq20_lo => first | assumption | omega); (case zq20_hi => first | assumption | omega); (case zq20_sm => first | assumption | omega); (case zq20_hs => with_unfolding_all rfl); k_whole); intro b7_z x7_z y7_z n7_z hm7_z)) | with_reducible ((k_here; (with_reducible show wpAny _ _ (call (Value.builtin "len") [Value.ref _]) _ _ _); (refine' lenK_N ?zq21_N ?zq21_V ?zq21_s0 ?zq21_sm ?_; (case zq21_N => assumption); (case zq21_V => assumption); (case zq21_s0 => ((intro p hp; repeat (first | exact hp | refine List.mem_cons_of_mem _ ?_)))); (case zq21_sm => first | assumption | omega); k_whole))) | ((with_reducible show wpAny _ _ (call (Value.type "range") _) _ _ _); with_reducible ((k_here; first   | ((refine' range1_N ?zq22_F ?zq22_N ?_; (case zq22_F => assumption); (case zq22_N => assumption); k_whole); intro hq_z r7_z t71_z t73_z tk7_z hR7_z Fq_z Nq_z)   | ((refine' range2_N ?zq22_F ?zq22_N ?_; (case zq22_F => assumption); (case zq22_N => assumption); k_whole); intro hq_z r7_z t73_z tk7_z hR7_z Fq_z Nq_z)))) | with_reducible ((k_here; (with_reducible show wpAny _ _ (call (Value.builtin "len") [Value.ref _]) _ _ _); (refine' len_N ?zq23_N ?zq23_V ?zq23_s0 ?zq23_sm ?_; (case zq23_N => assumption); (case zq23_V => assumption); (case zq23_s0 => ((intro p hp; repeat (first | exact hp | refine List.mem_cons_of_mem _ ?_)))); (case zq23_sm => first | assumption | omega); k_whole))) | ((with_reducible show wpAny _ _ (compareOp CmpOp.NotEq (Value.ref _) (Value.ref _)) _ _ _); with_reducible ((k_here; (refine' ne_N ?zq24_N ?zq24_a ?zq24_Ma ?zq24_b ?zq24_Mb ?zq24_u ?_; (case zq24_N => assumption); (case zq24_a => exact List.mem_cons_of_mem _ (List.mem_cons_self)); (case zq24_Ma => assumption); (case zq24_b => exact List.mem_cons_self); (case zq24_Mb => assumption); (case zq24_u => (simp only [units_in1, units_deeper]; omega)); k_whole)))) | ((with_reducible show wpAny _ _ (call (Value.type "set") []) _ _ _); with_reducible ((k_here; (refine' set0_N ?zq25_F ?zq25_N ?_; (case zq25_F => assumption); (case zq25_N => assumption); k_whole); intro hq_z c7_z o7_z Fq_z Nq_z hI7_z hne7_z))) | ((with_reducible show wpAny _ _ (binaryOp Operator.BitAnd (Value.ref _) (Value.ref _)) _ _ _); with_reducible ((k_here; (refine' and_N ?zq26_F ?zq26_N ?zq26_a ?zq26_s0 ?zq26_Ma ?zq26_b ?zq26_s1 ?zq26_Mb ?_; (case zq26_F => assumption); (case zq26_N => assumption); (case zq26_a => assumption); (case zq26_s0 => ((intro p hp; repeat (first | exact hp | refine List.mem_cons_of_mem _ ?_)))); (case zq26_Ma => assumption); (case zq26_b => assumption); (case zq26_s1 => ((intro p hp; repeat (first | exact hp | refine List.mem_cons_of_mem _ ?_)))); (case zq26_Mb => assumption); k_whole); intro hq_z c7_z o7_z Fq_z Nq_z hI7_z hne7_z))) | with_reducible ((k_here; (with_reducible show wpAny _ _ (subscriptTail _ _ (Value.ref _) (Value.int _ _)) _ _ _); (with_unfolding_all refine' item_N ?zq27_N ?zq27_V ?zq27_s0 ?zq27_lo ?zq27_hi ?zq27_sm ?_ ?zq27_hs; (case zq27_N => assumption); (case zq27_V => assumption); (case zq27_s0 => ((intro p hp; repeat (first | exact hp | refine List.mem_cons_of_mem _ ?_)))); (case zq27_lo => first | assumption | omega); (case zq27_hi => first | assumption | omega); (case zq27_sm => first | assumption | omega); (case zq27_hs => with_unfolding_all rfl); k_whole); intro a7_z o7_z hm7_z hI7_z)) | walk1 | (dsimp only; first | with_reducible ((k_here; (with_reducible show wpAny _ _ (eval (Expr.Name _ _) (compEnvC _ _ _ _)) _ _ _); k_dflt (refine' lcf_cell ?zq19_N ?zq19_c ?zq19_m ?zq19_d ?_ ?zq19_a ?zq19_b; (case zq19_a => rfl); (case zq19_b => rfl); (case zq19_N => k_asm); (case zq19_c => rfl); (case zq19_m => k_mem); (case zq19_d => k_asm); k_whole))) | with_reducible ((k_here; (with_reducible show wpAny _ _ (subscriptTail _ _ (Value.ref _) (Value.int _ _)) _ _ _); (with_unfolding_all refine' itemK_N ?zq20_N ?zq20_V ?zq20_s0 ?zq20_lo ?zq20_hi ?zq20_sm ?_ ?zq20_hs; (case zq20_N => assumption); (case zq20_V => assumption); (case zq20_s0 => ((intro p hp; repeat (first | exact hp | refine List.mem_cons_of_mem _ ?_)))); (case zq20_lo => first | assumption | omega); (case zq20_hi => first | assumption | omega); (case zq20_sm => first | assumption | omega); (case zq20_hs => with_unfolding_all rfl); k_whole); intro b7_z x7_z y7_z n7_z hm7_z)) | with_reducible ((k_here; (with_reducible show wpAny _ _ (call (Value.builtin "len") [Value.ref _]) _ _ _); (refine' lenK_N ?zq21_N ?zq21_V ?zq21_s0 ?zq21_sm ?_; (case zq21_N => assumption); (case zq21_V => assumption); (case zq21_s0 => ((intro p hp; repeat (first | exact hp | refine List.mem_cons_of_mem _ ?_)))); (case zq21_sm => first | assumption | omega); k_whole))) | ((with_reducible show wpAny _ _ (call (Value.type "range") _) _ _ _); with_reducible ((k_here; first   | ((refine' range1_N ?zq22_F ?zq22_N ?_; (case zq22_F => assumption); (case zq22_N => assumption); k_whole); intro hq_z r7_z t71_z t73_z tk7_z hR7_z Fq_z Nq_z)   | ((refine' range2_N ?zq22_F ?zq22_N ?_; (case zq22_F => assumption); (case zq22_N => assumption); k_whole); intro hq_z r7_z t73_z tk7_z hR7_z Fq_z Nq_z)))) | with_reducible ((k_here; (with_reducible show wpAny _ _ (call (Value.builtin "len") [Value.ref _]) _ _ _); (refine' len_N ?zq23_N ?zq23_V ?zq23_s0 ?zq23_sm ?_; (case zq23_N => assumption); (case zq23_V => assumption); (case zq23_s0 => ((intro p hp; repeat (first | exact hp | refine List.mem_cons_of_mem _ ?_)))); (case zq23_sm => first | assumption | omega); k_whole))) | ((with_reducible show wpAny _ _ (compareOp CmpOp.NotEq (Value.ref _) (Value.ref _)) _ _ _); with_reducible ((k_here; (refine' ne_N ?zq24_N ?zq24_a ?zq24_Ma ?zq24_b ?zq24_Mb ?zq24_u ?_; (case zq24_N => assumption); (case zq24_a => exact List.mem_cons_of_mem _ (List.mem_cons_self)); (case zq24_Ma => assumption); (case zq24_b => exact List.mem_cons_self); (case zq24_Mb => assumption); (case zq24_u => (simp only [units_in1, units_deeper]; omega)); k_whole)))) | ((with_reducible show wpAny _ _ (call (Value.type "set") []) _ _ _); with_reducible ((k_here; (refine' set0_N ?zq25_F ?zq25_N ?_; (case zq25_F => assumption); (case zq25_N => assumption); k_whole); intro hq_z c7_z o7_z Fq_z Nq_z hI7_z hne7_z))) | ((with_reducible show wpAny _ _ (binaryOp Operator.BitAnd (Value.ref _) (Value.ref _)) _ _ _); with_reducible ((k_here; (refine' and_N ?zq26_F ?zq26_N ?zq26_a ?zq26_s0 ?zq26_Ma ?zq26_b ?zq26_s1 ?zq26_Mb ?_; (case zq26_F => assumption); (case zq26_N => assumption); (case zq26_a => assumption); (case zq26_s0 => ((intro p hp; repeat (first | exact hp | refine List.mem_cons_of_mem _ ?_)))); (case zq26_Ma => assumption); (case zq26_b => assumption); (case zq26_s1 => ((intro p hp; repeat (first | exact hp | refine List.mem_cons_of_mem _ ?_)))); (case zq26_Mb => assumption); k_whole); intro hq_z c7_z o7_z Fq_z Nq_z hI7_z hne7_z))) | with_reducible ((k_here; (with_reducible show wpAny _ _ (subscriptTail _ _ (Value.ref _) (Value.int _ _)) _ _ _); (with_unfolding_all refine' item_N ?zq27_N ?zq27_V ?zq27_s0 ?zq27_lo ?zq27_hi ?zq27_sm ?_ ?zq27_hs; (case zq27_N => assumption); (case zq27_V => assumption); (case zq27_s0 => ((intro p hp; repeat (first | exact hp | refine List.mem_cons_of_mem _ ?_)))); (case zq27_lo => first | assumption | omega); (case zq27_hi => first | assumption | omega); (case zq27_sm => first | assumption | omega); (case zq27_hs => with_unfolding_all rfl); k_whole); intro a7_z o7_z hm7_z hI7_z)) | walk1)))))
    exact ret [] _ _ (by assumption) (by assumption)
end
section
theorem wc_spec {v v' : Value} {ps qs : List (Int × Nat)} (X : (KH w.params).In h₀) (B : Below A₀ base outer h₀) (F : Fr h₀ L s.heap m) (N : News h₀ L s.heap news) (T : Top VH loose mean mg mb h₀) (hk : cs.kind = .function)
    (hdp : dp + 10 < recursionLimit) (hun : un + 80 < cLine) (hV : KerAt news v ps) (hV' : KerAt news v' qs) (hms : ps.length ≤ 8) (hns : qs.length = ps.length)
    (ret : ∀ tl h' tk', Fr h₀ L h' m → News h₀ L h' (tl ++ news) → Q (.bool (goesB (ps.map (·.2)) (qs.map (·.2)))) { s with heap := h', toks := tk' }) :
    wpAny (model PySem.Challenge.rw_pq0572_01.row.prog w) (ktrTop dp un gd cn cs L a ccd cl outer) (call (.ref 127) [v, v']) Q E s := by
  revert X; k_fill; intro X
  obtain ⟨va, its, n, rfl, hVm, hVz, -⟩ := id hV
  obtain ⟨va', its', n', rfl, hVm', hVz', -⟩ := id hV'
  refine wpAny_call ?_
  k_dflt ktr_enter
  rename Fr _ _ _ _ => F1
  replace F1 := fr_args2 (Str.ofString "other") (Str.ofString "one") F1
  generalize s.toks + _ = tk0
  (repeat' ((first | (k_unfold; (try dsimp only)) | ((fail_if_success (with_reducible show wpAny _ _ (pyIter _) _ _ _)); (fail_if_success (with_reducible show LCg.CompSrc _ _ _ _ _ _ _ _ _ _ _ _ _ _)); (fail_if_success (with_reducible show LCt.CompSrcT _ _ _ _ _ _ _ _ _ _ _ _ _ _ _)); first | with_reducible ((k_here; (with_reducible show wpAny _ _ (eval (Expr.Name _ _) (compEnvC _ _ _ _)) _ _ _); k_dflt (refine' lcf_cell ?zq28_N ?zq28_c ?zq28_m ?zq28_d ?_ ?zq28_a ?zq28_b; (case zq28_a => rfl); (case zq28_b => rfl); (case zq28_N => k_asm); (case zq28_c => rfl); (case zq28_m => k_mem); (case zq28_d => k_asm); k_whole))) | ((with_reducible show wpAny _ _ (binaryOp Operator.BitAnd (Value.int _ _) (Value.int _ _)) _ _ _); with_reducible ((k_here; refine andNat ?_))) | with_reducible ((k_here; first   | ((with_reducible show wpAny _ _ (subscriptTail _ _ (Value.ref _) (Value.int 0 _)) _ _ _); (with_unfolding_all refine' item0_N ?zq30_N ?zq30_m ?zq30_s0 ?_ ?zq30_hs; (case zq30_N => assumption); (case zq30_m => assumption); (case zq30_s0 => ((intro p hp; repeat (first | exact hp | refine List.mem_cons_of_mem _ ?_)))); (case zq30_hs => with_unfolding_all rfl); k_whole))   | ((with_reducible show wpAny _ _ (subscriptTail _ _ (Value.ref _) (Value.int 1 _)) _ _ _); (with_unfolding_all refine' item1_N ?zq30_N ?zq30_m ?zq30_s0 ?_ ?zq30_hs; (case zq30_N => assumption); (case zq30_m => assumption); (case zq30_s0 => ((intro p hp; repeat (first | exact hp | refine List.mem_cons_of_mem _ ?_)))); (case zq30_hs => with_unfolding_all rfl); k_whole)))) | with_reducible ((k_here; (with_reducible show wpAny _ _ (subscriptTail _ _ (Value.ref _) (Value.int _ _)) _ _ _); (with_unfolding_all refine' itemK_N ?zq31_N ?zq31_V ?zq31_s0 ?zq31_lo ?zq31_hi ?zq31_sm ?_ ?zq31_hs; (case zq31_N => assumption); (case zq31_V => assumption); (case zq31_s0 => ((intro p hp; repeat (first | exact hp | refine List.mem_cons_of_mem _ ?_)))); (case zq31_lo => first | assumption | omega); (case zq31_hi => first | assumption | omega); (case zq31_sm => first | assumption | omega); (case zq31_hs => with_unfolding_all rfl); k_whole); intro b7_z x7_z y7_z n7_z hm7_z)) | with_reducible ((k_here; (with_reducible show wpAny _ _ (call (Value.builtin "len") [Value.ref _]) _ _ _); (refine' lenK_N ?zq32_N ?zq32_V ?zq32_s0 ?zq32_sm ?_; (case zq32_N => assumption); (case zq32_V => assumption); (case zq32_s0 => ((intro p hp; repeat (first | exact hp | refine List.mem_cons_of_mem _ ?_)))); (case zq32_sm => first | assumption | omega); k_whole))) | ((with_reducible show wpAny _ _ (call (Value.type "range") _) _ _ _); with_reducible ((k_here; first   | ((refine' range1_N ?zq33_F ?zq33_N ?_; (case zq33_F => assumption); (case zq33_N => assumption); k_whole); intro hq_z r7_z t71_z t73_z tk7_z hR7_z Fq_z Nq_z)   | ((refine' range2_N ?zq33_F ?zq33_N ?_; (case zq33_F => assumption); (case zq33_N => assumption); k_whole); intro hq_z r7_z t73_z tk7_z hR7_z Fq_z Nq_z)))) | walk1 | (dsimp only; first | with_reducible ((k_here; (with_reducible show wpAny _ _ (eval (Expr.Name _ _) (compEnvC _ _ _ _)) _ _ _); k_dflt (refine' lcf_cell ?zq28_N ?zq28_c ?zq28_m ?zq28_d ?_ ?zq28_a ?zq28_b; (case zq28_a => rfl); (case zq28_b => rfl); (case zq28_N => k_asm); (case zq28_c => rfl); (case zq28_m => k_mem); (case zq28_d => k_asm); k_whole))) | ((with_reducible show wpAny _ _ (binaryOp Operator.BitAnd (Value.int _ _) (Value.int _ _)) _ _ _); with_reducible ((k_here; refine andNat ?_))) | with_reducible ((k_here; first   | ((with_reducible show wpAny _ _ (subscriptTail _ _ (Value.ref _) (Value.int 0 _)) _ _ _); (with_unfolding_all refine' item0_N ?zq30_N ?zq30_m ?zq30_s0 ?_ ?zq30_hs; (case zq30_N => assumption); (case zq30_m => assumption); (case zq30_s0 => ((intro p hp; repeat (first | exact hp | refine List.mem_cons_of_mem _ ?_)))); (case zq30_hs => with_unfolding_all rfl); k_whole))   | ((with_reducible show wpAny _ _ (subscriptTail _ _ (Value.ref _) (Value.int 1 _)) _ _ _); (with_unfolding_all refine' item1_N ?zq30_N ?zq30_m ?zq30_s0 ?_ ?zq30_hs; (case zq30_N => assumption); (case zq30_m => assumption); (case zq30_s0 => ((intro p hp; repeat (first | exact hp | refine List.mem_cons_of_mem _ ?_)))); (case zq30_hs => with_unfolding_all rfl); k_whole)))) | with_reducible ((k_here; (with_reducible show wpAny _ _ (subscriptTail _ _ (Value.ref _) (Value.int _ _)) _ _ _); (with_unfolding_all refine' itemK_N ?zq31_N ?zq31_V ?zq31_s0 ?zq31_lo ?zq31_hi ?zq31_sm ?_ ?zq31_hs; (case zq31_N => assumption); (case zq31_V => assumption); (case zq31_s0 => ((intro p hp; repeat (first | exact hp | refine List.mem_cons_of_mem _ ?_)))); (case zq31_lo => first | assumption | omega); (case zq31_hi => first | assumption | omega); (case zq31_sm => first | assumption | omega); (case zq31_hs => with_unfolding_all rfl); k_whole); intro b7_z x7_z y7_z n7_z hm7_z)) | with_reducible ((k_here; (with_reducible show wpAny _ _ (call (Value.builtin "len") [Value.ref _]) _ _ _); (refine' lenK_N ?zq32_N ?zq32_V ?zq32_s0 ?zq32_sm ?_; (case zq32_N => assumption); (case zq32_V => assumption); (case zq32_s0 => ((intro p hp; repeat (first | exact hp | refine List.mem_cons_of_mem _ ?_)))); (case zq32_sm => first | assumption | omega); k_whole))) | ((with_reducible show wpAny _ _ (call (Value.type "range") _) _ _ _); with_reducible ((k_here; first   | ((refine' range1_N ?zq33_F ?zq33_N ?_; (case zq33_F => assumption); (case zq33_N => assumption); k_whole); intro hq_z r7_z t71_z t73_z tk7_z hR7_z Fq_z Nq_z)   | ((refine' range2_N ?zq33_F ?zq33_N ?_; (case zq33_F => assumption); (case zq33_N => assumption); k_whole); intro hq_z r7_z t73_z tk7_z hR7_z Fq_z Nq_z)))) | walk1)))))
  refine rangeG (stored := [Str.ofString "j"]) (G := fun i led => led = news ∧ Fine (ps.map (·.2)) (qs.map (·.2)) i) rfl (by assumption) (small_one (by omega) (by omega) (by omega) (by omega)) (n := ps.length) (by rw [rangeSize_one]; split <;> omega) (by assumption) (by assumption) ⟨rfl, fun i' hi' => absurd hi' (Nat.not_lt_zero _)⟩ ?turn ?done
  case turn =>
    rintro i t u h2 tk2 I o led hi ⟨eL, hP⟩ hoff F2 N2
    subst led
    (repeat' ((first | (k_unfold; (try dsimp only)) | ((fail_if_success (with_reducible show wpAny _ _ (pyIter _) _ _ _)); (fail_if_success (with_reducible show LCg.CompSrc _ _ _ _ _ _ _ _ _ _ _ _ _ _)); (fail_if_success (with_reducible show LCt.CompSrcT _ _ _ _ _ _ _ _ _ _ _ _ _ _ _)); first | with_reducible ((k_here; (with_reducible show wpAny _ _ (eval (Expr.Name _ _) (compEnvC _ _ _ _)) _ _ _); k_dflt (refine' lcf_cell ?zq28_N ?zq28_c ?zq28_m ?zq28_d ?_ ?zq28_a ?zq28_b; (case zq28_a => rfl); (case zq28_b => rfl); (case zq28_N => k_asm); (case zq28_c => rfl); (case zq28_m => k_mem); (case zq28_d => k_asm); k_whole))) | ((with_reducible show wpAny _ _ (binaryOp Operator.BitAnd (Value.int _ _) (Value.int _ _)) _ _ _); with_reducible ((k_here; refine andNat ?_))) | with_reducible ((k_here; first   | ((with_reducible show wpAny _ _ (subscriptTail _ _ (Value.ref _) (Value.int 0 _)) _ _ _); (with_unfolding_all refine' item0_N ?zq30_N ?zq30_m ?zq30_s0 ?_ ?zq30_hs; (case zq30_N => assumption); (case zq30_m => assumption); (case zq30_s0 => ((intro p hp; repeat (first | exact hp | refine List.mem_cons_of_mem _ ?_)))); (case zq30_hs => with_unfolding_all rfl); k_whole))   | ((with_reducible show wpAny _ _ (subscriptTail _ _ (Value.ref _) (Value.int 1 _)) _ _ _); (with_unfolding_all refine' item1_N ?zq30_N ?zq30_m ?zq30_s0 ?_ ?zq30_hs; (case zq30_N => assumption); (case zq30_m => assumption); (case zq30_s0 => ((intro p hp; repeat (first | exact hp | refine List.mem_cons_of_mem _ ?_)))); (case zq30_hs => with_unfolding_all rfl); k_whole)))) | with_reducible ((k_here; (with_reducible show wpAny _ _ (subscriptTail _ _ (Value.ref _) (Value.int _ _)) _ _ _); (with_unfolding_all refine' itemK_N ?zq31_N ?zq31_V ?zq31_s0 ?zq31_lo ?zq31_hi ?zq31_sm ?_ ?zq31_hs; (case zq31_N => assumption); (case zq31_V => assumption); (case zq31_s0 => ((intro p hp; repeat (first | exact hp | refine List.mem_cons_of_mem _ ?_)))); (case zq31_lo => first | assumption | omega); (case zq31_hi => first | assumption | omega); (case zq31_sm => first | assumption | omega); (case zq31_hs => with_unfolding_all rfl); k_whole); intro b7_z x7_z y7_z n7_z hm7_z)) | with_reducible ((k_here; (with_reducible show wpAny _ _ (call (Value.builtin "len") [Value.ref _]) _ _ _); (refine' lenK_N ?zq32_N ?zq32_V ?zq32_s0 ?zq32_sm ?_; (case zq32_N => assumption); (case zq32_V => assumption); (case zq32_s0 => ((intro p hp; repeat (first | exact hp | refine List.mem_cons_of_mem _ ?_)))); (case zq32_sm => first | assumption | omega); k_whole))) | ((with_reducible show wpAny _ _ (call (Value.type "range") _) _ _ _); with_reducible ((k_here; first   | ((refine' range1_N ?zq33_F ?zq33_N ?_; (case zq33_F => assumption); (case zq33_N => assumption); k_whole); intro hq_z r7_z t71_z t73_z tk7_z hR7_z Fq_z Nq_z)   | ((refine' range2_N ?zq33_F ?zq33_N ?_; (case zq33_F => assumption); (case zq33_N => assumption); k_whole); intro hq_z r7_z t73_z tk7_z hR7_z Fq_z Nq_z)))) | walk1 | (dsimp only; first | with_reducible ((k_here; (with_reducible show wpAny _ _ (eval (Expr.Name _ _) (compEnvC _ _ _ _)) _ _ _); k_dflt (refine' lcf_cell ?zq28_N ?zq28_c ?zq28_m ?zq28_d ?_ ?zq28_a ?zq28_b; (case zq28_a => rfl); (case zq28_b => rfl); (case zq28_N => k_asm); (case zq28_c => rfl); (case zq28_m => k_mem); (case zq28_d => k_asm); k_whole))) | ((with_reducible show wpAny _ _ (binaryOp Operator.BitAnd (Value.int _ _) (Value.int _ _)) _ _ _); with_reducible ((k_here; refine andNat ?_))) | with_reducible ((k_here; first   | ((with_reducible show wpAny _ _ (subscriptTail _ _ (Value.ref _) (Value.int 0 _)) _ _ _); (with_unfolding_all refine' item0_N ?zq30_N ?zq30_m ?zq30_s0 ?_ ?zq30_hs; (case zq30_N => assumption); (case zq30_m => assumption); (case zq30_s0 => ((intro p hp; repeat (first | exact hp | refine List.mem_cons_of_mem _ ?_)))); (case zq30_hs => with_unfolding_all rfl); k_whole))   | ((with_reducible show wpAny _ _ (subscriptTail _ _ (Value.ref _) (Value.int 1 _)) _ _ _); (with_unfolding_all refine' item1_N ?zq30_N ?zq30_m ?zq30_s0 ?_ ?zq30_hs; (case zq30_N => assumption); (case zq30_m => assumption); (case zq30_s0 => ((intro p hp; repeat (first | exact hp | refine List.mem_cons_of_mem _ ?_)))); (case zq30_hs => with_unfolding_all rfl); k_whole)))) | with_reducible ((k_here; (with_reducible show wpAny _ _ (subscriptTail _ _ (Value.ref _) (Value.int _ _)) _ _ _); (with_unfolding_all refine' itemK_N ?zq31_N ?zq31_V ?zq31_s0 ?zq31_lo ?zq31_hi ?zq31_sm ?_ ?zq31_hs; (case zq31_N => assumption); (case zq31_V => assumption); (case zq31_s0 => ((intro p hp; repeat (first | exact hp | refine List.mem_cons_of_mem _ ?_)))); (case zq31_lo => first | assumption | omega); (case zq31_hi => first | assumption | omega); (case zq31_sm => first | assumption | omega); (case zq31_hs => with_unfolding_all rfl); k_whole); intro b7_z x7_z y7_z n7_z hm7_z)) | with_reducible ((k_here; (with_reducible show wpAny _ _ (call (Value.builtin "len") [Value.ref _]) _ _ _); (refine' lenK_N ?zq32_N ?zq32_V ?zq32_s0 ?zq32_sm ?_; (case zq32_N => assumption); (case zq32_V => assumption); (case zq32_s0 => ((intro p hp; repeat (first | exact hp | refine List.mem_cons_of_mem _ ?_)))); (case zq32_sm => first | assumption | omega); k_whole))) | ((with_reducible show wpAny _ _ (call (Value.type "range") _) _ _ _); with_reducible ((k_here; first   | ((refine' range1_N ?zq33_F ?zq33_N ?_; (case zq33_F => assumption); (case zq33_N => assumption); k_whole); intro hq_z r7_z t71_z t73_z tk7_z hR7_z Fq_z Nq_z)   | ((refine' range2_N ?zq33_F ?zq33_N ?_; (case zq33_F => assumption); (case zq33_N => assumption); k_whole); intro hq_z r7_z t73_z tk7_z hR7_z Fq_z Nq_z)))) | walk1)))))
    refine rangeG (stored := []) (G := fun j led' => led' = (I, o) :: news ∧ ∀ j', i < j' → j' < i + 1 + j → badB (ps.map (·.2)) (qs.map (·.2)) i j' = false) rfl (by assumption) (small_one (by omega) (by omega) (by omega) (by omega)) (n := ps.length - (i + 1)) (by rw [rangeSize_one]; split <;> omega) (by assumption) (by assumption) ⟨rfl, fun j' h1 h2 => by omega⟩ ?turn2 ?done2
    case turn2 =>
      rintro j t3 u3 h3 tk3 I3 o3 led3 hj ⟨eL, hP3⟩ hoff3 F3 N3
      subst led3
      have e1 : (0 + (i : Int)).toNat = i := by omega
      have e2 : (0 + (i : Int) + 1 + (j : Int)).toNat = i + 1 + j := by omega
      have i0 : 0 ≤ 0 + (i : Int) := by omega
      have j0 : 0 ≤ 0 + (i : Int) + 1 + (j : Int) := by omega
      have i1 : 0 + (i : Int) < (ps.length : Int) := by omega
      have j1 : 0 + (i : Int) + 1 + (j : Int) < (ps.length : Int) := by omega
      have i2 : 0 + (i : Int) < (qs.length : Int) := by omega
      have j2 : 0 + (i : Int) + 1 + (j : Int) < (qs.length : Int) := by omega
      have s1 : ps.length ≤ 64 := by omega
      have s2 : qs.length ≤ 64 := by omega
      (repeat' ((first | (k_unfold; (try dsimp only)) | ((fail_if_success (with_reducible show wpAny _ _ (pyIter _) _ _ _)); (fail_if_success (with_reducible show LCg.CompSrc _ _ _ _ _ _ _ _ _ _ _ _ _ _)); (fail_if_success (with_reducible show LCt.CompSrcT _ _ _ _ _ _ _ _ _ _ _ _ _ _ _)); first | with_reducible ((k_here; (with_reducible show wpAny _ _ (eval (Expr.Name _ _) (compEnvC _ _ _ _)) _ _ _); k_dflt (refine' lcf_cell ?zq28_N ?zq28_c ?zq28_m ?zq28_d ?_ ?zq28_a ?zq28_b; (case zq28_a => rfl); (case zq28_b => rfl); (case zq28_N => k_asm); (case zq28_c => rfl); (case zq28_m => k_mem); (case zq28_d => k_asm); k_whole))) | ((with_reducible show wpAny _ _ (binaryOp Operator.BitAnd (Value.int _ _) (Value.int _ _)) _ _ _); with_reducible ((k_here; refine andNat ?_))) | with_reducible ((k_here; first   | ((with_reducible show wpAny _ _ (subscriptTail _ _ (Value.ref _) (Value.int 0 _)) _ _ _); (with_unfolding_all refine' item0_N ?zq30_N ?zq30_m ?zq30_s0 ?_ ?zq30_hs; (case zq30_N => assumption); (case zq30_m => assumption); (case zq30_s0 => ((intro p hp; repeat (first | exact hp | refine List.mem_cons_of_mem _ ?_)))); (case zq30_hs => with_unfolding_all rfl); k_whole))   | ((with_reducible show wpAny _ _ (subscriptTail _ _ (Value.ref _) (Value.int 1 _)) _ _ _); (with_unfolding_all refine' item1_N ?zq30_N ?zq30_m ?zq30_s0 ?_ ?zq30_hs; (case zq30_N => assumption); (case zq30_m => assumption); (case zq30_s0 => ((intro p hp; repeat (first | exact hp | refine List.mem_cons_of_mem _ ?_)))); (case zq30_hs => with_unfolding_all rfl); k_whole)))) | with_reducible ((k_here; (with_reducible show wpAny _ _ (subscriptTail _ _ (Value.ref _) (Value.int _ _)) _ _ _); (with_unfolding_all refine' itemK_N ?zq31_N ?zq31_V ?zq31_s0 ?zq31_lo ?zq31_hi ?zq31_sm ?_ ?zq31_hs; (case zq31_N => assumption); (case zq31_V => assumption); (case zq31_s0 => ((intro p hp; repeat (first | exact hp | refine List.mem_cons_of_mem _ ?_)))); (case zq31_lo => first | assumption | omega); (case zq31_hi => first | assumption | omega); (case zq31_sm => first | assumption | omega); (case zq31_hs => with_unfolding_all rfl); k_whole); intro b7_z x7_z y7_z n7_z hm7_z)) | with_reducible ((k_here; (with_reducible show wpAny _ _ (call (Value.builtin "len") [Value.ref _]) _ _ _); (refine' lenK_N ?zq32_N ?zq32_V ?zq32_s0 ?zq32_sm ?_; (case zq32_N => assumption); (case zq32_V => assumption); (case zq32_s0 => ((intro p hp; repeat (first | exact hp | refine List.mem_cons_of_mem _ ?_)))); (case zq32_sm => first | assumption | omega); k_whole))) | ((with_reducible show wpAny _ _ (call (Value.type "range") _) _ _ _); with_reducible ((k_here; first   | ((refine' range1_N ?zq33_F ?zq33_N ?_; (case zq33_F => assumption); (case zq33_N => assumption); k_whole); intro hq_z r7_z t71_z t73_z tk7_z hR7_z Fq_z Nq_z)   | ((refine' range2_N ?zq33_F ?zq33_N ?_; (case zq33_F => assumption); (case zq33_N => assumption); k_whole); intro hq_z r7_z t73_z tk7_z hR7_z Fq_z Nq_z)))) | walk1 | (dsimp only; first | with_reducible ((k_here; (with_reducible show wpAny _ _ (eval (Expr.Name _ _) (compEnvC _ _ _ _)) _ _ _); k_dflt (refine' lcf_cell ?zq28_N ?zq28_c ?zq28_m ?zq28_d ?_ ?zq28_a ?zq28_b; (case zq28_a => rfl); (case zq28_b => rfl); (case zq28_N => k_asm); (case zq28_c => rfl); (case zq28_m => k_mem); (case zq28_d => k_asm); k_whole))) | ((with_reducible show wpAny _ _ (binaryOp Operator.BitAnd (Value.int _ _) (Value.int _ _)) _ _ _); with_reducible ((k_here; refine andNat ?_))) | with_reducible ((k_here; first   | ((with_reducible show wpAny _ _ (subscriptTail _ _ (Value.ref _) (Value.int 0 _)) _ _ _); (with_unfolding_all refine' item0_N ?zq30_N ?zq30_m ?zq30_s0 ?_ ?zq30_hs; (case zq30_N => assumption); (case zq30_m => assumption); (case zq30_s0 => ((intro p hp; repeat (first | exact hp | refine List.mem_cons_of_mem _ ?_)))); (case zq30_hs => with_unfolding_all rfl); k_whole))   | ((with_reducible show wpAny _ _ (subscriptTail _ _ (Value.ref _) (Value.int 1 _)) _ _ _); (with_unfolding_all refine' item1_N ?zq30_N ?zq30_m ?zq30_s0 ?_ ?zq30_hs; (case zq30_N => assumption); (case zq30_m => assumption); (case zq30_s0 => ((intro p hp; repeat (first | exact hp | refine List.mem_cons_of_mem _ ?_)))); (case zq30_hs => with_unfolding_all rfl); k_whole)))) | with_reducible ((k_here; (with_reducible show wpAny _ _ (subscriptTail _ _ (Value.ref _) (Value.int _ _)) _ _ _); (with_unfolding_all refine' itemK_N ?zq31_N ?zq31_V ?zq31_s0 ?zq31_lo ?zq31_hi ?zq31_sm ?_ ?zq31_hs; (case zq31_N => assumption); (case zq31_V => assumption); (case zq31_s0 => ((intro p hp; repeat (first | exact hp | refine List.mem_cons_of_mem _ ?_)))); (case zq31_lo => first | assumption | omega); (case zq31_hi => first | assumption | omega); (case zq31_sm => first | assumption | omega); (case zq31_hs => with_unfolding_all rfl); k_whole); intro b7_z x7_z y7_z n7_z hm7_z)) | with_reducible ((k_here; (with_reducible show wpAny _ _ (call (Value.builtin "len") [Value.ref _]) _ _ _); (refine' lenK_N ?zq32_N ?zq32_V ?zq32_s0 ?zq32_sm ?_; (case zq32_N => assumption); (case zq32_V => assumption); (case zq32_s0 => ((intro p hp; repeat (first | exact hp | refine List.mem_cons_of_mem _ ?_)))); (case zq32_sm => first | assumption | omega); k_whole))) | ((with_reducible show wpAny _ _ (call (Value.type "range") _) _ _ _); with_reducible ((k_here; first   | ((refine' range1_N ?zq33_F ?zq33_N ?_; (case zq33_F => assumption); (case zq33_N => assumption); k_whole); intro hq_z r7_z t71_z t73_z tk7_z hR7_z Fq_z Nq_z)   | ((refine' range2_N ?zq33_F ?zq33_N ?_; (case zq33_F => assumption); (case zq33_N => assumption); k_whole); intro hq_z r7_z t73_z tk7_z hR7_z Fq_z Nq_z)))) | walk1)))))
      all_goals first
        | (have hb : badB (ps.map (·.2)) (qs.map (·.2)) i (i + 1 + j) = false := by
             first | exact bad_c e1 e2 (by assumption) (by assumption) | exact bad_s1 e1 e2 (by assumption) | exact bad_s2 e1 e2 (by assumption)
           refine ⟨_, _, _, (I, o) :: news, rfl, by assumption, News.sub (by assumption) (by ((intro p hp; repeat (first | exact hp | refine List.mem_cons_of_mem _ ?_)))), hoff3, ⟨rfl, fun j' h1 h2 => ?_⟩, fun y h1 h2 => ?_⟩
           · by_cases hj' : j' = i + 1 + j
             · subst hj'; exact hb
             · exact hP3 j' h1 (by omega)
           · simp [h1])
        | (have hb : badB (ps.map (·.2)) (qs.map (·.2)) i (i + 1 + j) = true := by
             first | exact bad_t1 e1 e2 (by assumption) (by assumption) (by assumption) | exact bad_t2 e1 e2 (by assumption) (by assumption) (by assumption)
           have e : goesB (ps.map (·.2)) (qs.map (·.2)) = false := goesB_false (i := i) (j := i + 1 + j) (by omega) (by simp only [List.length_map]; omega) hb
           rw [e] at ret
           (try dsimp only [TurnG])
           (repeat' ((first | (k_unfold; (try dsimp only)) | ((fail_if_success (with_reducible show wpAny _ _ (pyIter _) _ _ _)); (fail_if_success (with_reducible show LCg.CompSrc _ _ _ _ _ _ _ _ _ _ _ _ _ _)); (fail_if_success (with_reducible show LCt.CompSrcT _ _ _ _ _ _ _ _ _ _ _ _ _ _ _)); first | with_reducible ((k_here; (with_reducible show wpAny _ _ (eval (Expr.Name _ _) (compEnvC _ _ _ _)) _ _ _); k_dflt (refine' lcf_cell ?zq28_N ?zq28_c ?zq28_m ?zq28_d ?_ ?zq28_a ?zq28_b; (case zq28_a => rfl); (case zq28_b => rfl); (case zq28_N => k_asm); (case zq28_c => rfl); (case zq28_m => k_mem); (case zq28_d => k_asm); k_whole))) | ((with_reducible show wpAny _ _ (binaryOp Operator.BitAnd (Value.int _ _) (Value.int _ _)) _ _ _); with_reducible ((k_here; refine andNat ?_))) | with_reducible ((k_here; first   | ((with_reducible show wpAny _ _ (subscriptTail _ _ (Value.ref _) (Value.int 0 _)) _ _ _); (with_unfolding_all refine' item0_N ?zq30_N ?zq30_m ?zq30_s0 ?_ ?zq30_hs; (case zq30_N => assumption); (case zq30_m => assumption); (case zq30_s0 => ((intro p hp; repeat (first | exact hp | refine List.mem_cons_of_mem _ ?_)))); (case zq30_hs => with_unfolding_all rfl); k_whole))   | ((with_reducible show wpAny _ _ (subscriptTail _ _ (Value.ref _) (Value.int 1 _)) _ _ _); (with_unfolding_all refine' item1_N ?zq30_N ?zq30_m ?zq30_s0 ?_ ?zq30_hs; (case zq30_N => assumption); (case zq30_m => assumption); (case zq30_s0 => ((intro p hp; repeat (first | exact hp | refine List.mem_cons_of_mem _ ?_)))); (case zq30_hs => with_unfolding_all rfl); k_whole)))) | with_reducible ((k_here; (with_reducible show wpAny _ _ (subscriptTail _ _ (Value.ref _) (Value.int _ _)) _ _ _); (with_unfolding_all refine' itemK_N ?zq31_N ?zq31_V ?zq31_s0 ?zq31_lo ?zq31_hi ?zq31_sm ?_ ?zq31_hs; (case zq31_N => assumption); (case zq31_V => assumption); (case zq31_s0 => ((intro p hp; repeat (first | exact hp | refine List.mem_cons_of_mem _ ?_)))); (case zq31_lo => first | assumption | omega); (case zq31_hi => first | assumption | omega); (case zq31_sm => first | assumption | omega); (case zq31_hs => with_unfolding_all rfl); k_whole); intro b7_z x7_z y7_z n7_z hm7_z)) | with_reducible ((k_here; (with_reducible show wpAny _ _ (call (Value.builtin "len") [Value.ref _]) _ _ _); (refine' lenK_N ?zq32_N ?zq32_V ?zq32_s0 ?zq32_sm ?_; (case zq32_N => assumption); (case zq32_V => assumption); (case zq32_s0 => ((intro p hp; repeat (first | exact hp | refine List.mem_cons_of_mem _ ?_)))); (case zq32_sm => first | assumption | omega); k_whole))) | ((with_reducible show wpAny _ _ (call (Value.type "range") _) _ _ _); with_reducible ((k_here; first   | ((refine' range1_N ?zq33_F ?zq33_N ?_; (case zq33_F => assumption); (case zq33_N => assumption); k_whole); intro hq_z r7_z t71_z t73_z tk7_z hR7_z Fq_z Nq_z)   | ((refine' range2_N ?zq33_F ?zq33_N ?_; (case zq33_F => assumption); (case zq33_N => assumption); k_whole); intro hq_z r7_z t73_z tk7_z hR7_z Fq_z Nq_z)))) | walk1 | (dsimp only; first | with_reducible ((k_here; (with_reducible show wpAny _ _ (eval (Expr.Name _ _) (compEnvC _ _ _ _)) _ _ _); k_dflt (refine' lcf_cell ?zq28_N ?zq28_c ?zq28_m ?zq28_d ?_ ?zq28_a ?zq28_b; (case zq28_a => rfl); (case zq28_b => rfl); (case zq28_N => k_asm); (case zq28_c => rfl); (case zq28_m => k_mem); (case zq28_d => k_asm); k_whole))) | ((with_reducible show wpAny _ _ (binaryOp Operator.BitAnd (Value.int _ _) (Value.int _ _)) _ _ _); with_reducible ((k_here; refine andNat ?_))) | with_reducible ((k_here; first   | ((with_reducible show wpAny _ _ (subscriptTail _ _ (Value.ref _) (Value.int 0 _)) _ _ _); (with_unfolding_all refine' item0_N ?zq30_N ?zq30_m ?zq30_s0 ?_ ?zq30_hs; (case zq30_N => assumption); (case zq30_m => assumption); (case zq30_s0 => ((intro p hp; repeat (first | exact hp | refine List.mem_cons_of_mem _ ?_)))); (case zq30_hs => with_unfolding_all rfl); k_whole))   | ((with_reducible show wpAny _ _ (subscriptTail _ _ (Value.ref _) (Value.int 1 _)) _ _ _); (with_unfolding_all refine' item1_N ?zq30_N ?zq30_m ?zq30_s0 ?_ ?zq30_hs; (case zq30_N => assumption); (case zq30_m => assumption); (case zq30_s0 => ((intro p hp; repeat (first | exact hp | refine List.mem_cons_of_mem _ ?_)))); (case zq30_hs => with_unfolding_all rfl); k_whole)))) | with_reducible ((k_here; (with_reducible show wpAny _ _ (subscriptTail _ _ (Value.ref _) (Value.int _ _)) _ _ _); (with_unfolding_all refine' itemK_N ?zq31_N ?zq31_V ?zq31_s0 ?zq31_lo ?zq31_hi ?zq31_sm ?_ ?zq31_hs; (case zq31_N => assumption); (case zq31_V => assumption); (case zq31_s0 => ((intro p hp; repeat (first | exact hp | refine List.mem_cons_of_mem _ ?_)))); (case zq31_lo => first | assumption | omega); (case zq31_hi => first | assumption | omega); (case zq31_sm => first | assumption | omega); (case zq31_hs => with_unfolding_all rfl); k_whole); intro b7_z x7_z y7_z n7_z hm7_z)) | with_reducible ((k_here; (with_reducible show wpAny _ _ (call (Value.builtin "len") [Value.ref _]) _ _ _); (refine' lenK_N ?zq32_N ?zq32_V ?zq32_s0 ?zq32_sm ?_; (case zq32_N => assumption); (case zq32_V => assumption); (case zq32_s0 => ((intro p hp; repeat (first | exact hp | refine List.mem_cons_of_mem _ ?_)))); (case zq32_sm => first | assumption | omega); k_whole))) | ((with_reducible show wpAny _ _ (call (Value.type "range") _) _ _ _); with_reducible ((k_here; first   | ((refine' range1_N ?zq33_F ?zq33_N ?_; (case zq33_F => assumption); (case zq33_N => assumption); k_whole); intro hq_z r7_z t71_z t73_z tk7_z hR7_z Fq_z Nq_z)   | ((refine' range2_N ?zq33_F ?zq33_N ?_; (case zq33_F => assumption); (case zq33_N => assumption); k_whole); intro hq_z r7_z t73_z tk7_z hR7_z Fq_z Nq_z)))) | walk1)))))
           exact ret [_, _] _ _ (by assumption) (by assumption))
    case done2 =>
      rintro u4 h4 tk4 led4 ⟨eL, hP4⟩ F4 N4
      subst led4
      (repeat' ((first | (k_unfold; (try dsimp only)) | ((fail_if_success (with_reducible show wpAny _ _ (pyIter _) _ _ _)); (fail_if_success (with_reducible show LCg.CompSrc _ _ _ _ _ _ _ _ _ _ _ _ _ _)); (fail_if_success (with_reducible show LCt.CompSrcT _ _ _ _ _ _ _ _ _ _ _ _ _ _ _)); first | with_reducible ((k_here; (with_reducible show wpAny _ _ (eval (Expr.Name _ _) (compEnvC _ _ _ _)) _ _ _); k_dflt (refine' lcf_cell ?zq28_N ?zq28_c ?zq28_m ?zq28_d ?_ ?zq28_a ?zq28_b; (case zq28_a => rfl); (case zq28_b => rfl); (case zq28_N => k_asm); (case zq28_c => rfl); (case zq28_m => k_mem); (case zq28_d => k_asm); k_whole))) | ((with_reducible show wpAny _ _ (binaryOp Operator.BitAnd (Value.int _ _) (Value.int _ _)) _ _ _); with_reducible ((k_here; refine andNat ?_))) | with_reducible ((k_here; first   | ((with_reducible show wpAny _ _ (subscriptTail _ _ (Value.ref _) (Value.int 0 _)) _ _ _); (with_unfolding_all refine' item0_N ?zq30_N ?zq30_m ?zq30_s0 ?_ ?zq30_hs; (case zq30_N => assumption); (case zq30_m => assumption); (case zq30_s0 => ((intro p hp; repeat (first | exact hp | refine List.mem_cons_of_mem _ ?_)))); (case zq30_hs => with_unfolding_all rfl); k_whole))   | ((with_reducible show wpAny _ _ (subscriptTail _ _ (Value.ref _) (Value.int 1 _)) _ _ _); (with_unfolding_all refine' item1_N ?zq30_N ?zq30_m ?zq30_s0 ?_ ?zq30_hs; (case zq30_N => assumption); (case zq30_m => assumption); (case zq30_s0 => ((intro p hp; repeat (first | exact hp | refine List.mem_cons_of_mem _ ?_)))); (case zq30_hs => with_unfolding_all rfl); k_whole)))) | with_reducible ((k_here; (with_reducible show wpAny _ _ (subscriptTail _ _ (Value.ref _) (Value.int _ _)) _ _ _); (with_unfolding_all refine' itemK_N ?zq31_N ?zq31_V ?zq31_s0 ?zq31_lo ?zq31_hi ?zq31_sm ?_ ?zq31_hs; (case zq31_N => assumption); (case zq31_V => assumption); (case zq31_s0 => ((intro p hp; repeat (first | exact hp | refine List.mem_cons_of_mem _ ?_)))); (case zq31_lo => first | assumption | omega); (case zq31_hi => first | assumption | omega); (case zq31_sm => first | assumption | omega); (case zq31_hs => with_unfolding_all rfl); k_whole); intro b7_z x7_z y7_z n7_z hm7_z)) | with_reducible ((k_here; (with_reducible show wpAny _ _ (call (Value.builtin "len") [Value.ref _]) _ _ _); (refine' lenK_N ?zq32_N ?zq32_V ?zq32_s0 ?zq32_sm ?_; (case zq32_N => assumption); (case zq32_V => assumption); (case zq32_s0 => ((intro p hp; repeat (first | exact hp | refine List.mem_cons_of_mem _ ?_)))); (case zq32_sm => first | assumption | omega); k_whole))) | ((with_reducible show wpAny _ _ (call (Value.type "range") _) _ _ _); with_reducible ((k_here; first   | ((refine' range1_N ?zq33_F ?zq33_N ?_; (case zq33_F => assumption); (case zq33_N => assumption); k_whole); intro hq_z r7_z t71_z t73_z tk7_z hR7_z Fq_z Nq_z)   | ((refine' range2_N ?zq33_F ?zq33_N ?_; (case zq33_F => assumption); (case zq33_N => assumption); k_whole); intro hq_z r7_z t73_z tk7_z hR7_z Fq_z Nq_z)))) | walk1 | (dsimp only; first | with_reducible ((k_here; (with_reducible show wpAny _ _ (eval (Expr.Name _ _) (compEnvC _ _ _ _)) _ _ _); k_dflt (refine' lcf_cell ?zq28_N ?zq28_c ?zq28_m ?zq28_d ?_ ?zq28_a ?zq28_b; (case zq28_a => rfl); (case zq28_b => rfl); (case zq28_N => k_asm); (case zq28_c => rfl); (case zq28_m => k_mem); (case zq28_d => k_asm); k_whole))) | ((with_reducible show wpAny _ _ (binaryOp Operator.BitAnd (Value.int _ _) (Value.int _ _)) _ _ _); with_reducible ((k_here; refine andNat ?_))) | with_reducible ((k_here; first   | ((with_reducible show wpAny _ _ (subscriptTail _ _ (Value.ref _) (Value.int 0 _)) _ _ _); (with_unfolding_all refine' item0_N ?zq30_N ?zq30_m ?zq30_s0 ?_ ?zq30_hs; (case zq30_N => assumption); (case zq30_m => assumption); (case zq30_s0 => ((intro p hp; repeat (first | exact hp | refine List.mem_cons_of_mem _ ?_)))); (case zq30_hs => with_unfolding_all rfl); k_whole))   | ((with_reducible show wpAny _ _ (subscriptTail _ _ (Value.ref _) (Value.int 1 _)) _ _ _); (with_unfolding_all refine' item1_N ?zq30_N ?zq30_m ?zq30_s0 ?_ ?zq30_hs; (case zq30_N => assumption); (case zq30_m => assumption); (case zq30_s0 => ((intro p hp; repeat (first | exact hp | refine List.mem_cons_of_mem _ ?_)))); (case zq30_hs => with_unfolding_all rfl); k_whole)))) | with_reducible ((k_here; (with_reducible show wpAny _ _ (subscriptTail _ _ (Value.ref _) (Value.int _ _)) _ _ _); (with_unfolding_all refine' itemK_N ?zq31_N ?zq31_V ?zq31_s0 ?zq31_lo ?zq31_hi ?zq31_sm ?_ ?zq31_hs; (case zq31_N => assumption); (case zq31_V => assumption); (case zq31_s0 => ((intro p hp; repeat (first | exact hp | refine List.mem_cons_of_mem _ ?_)))); (case zq31_lo => first | assumption | omega); (case zq31_hi => first | assumption | omega); (case zq31_sm => first | assumption | omega); (case zq31_hs => with_unfolding_all rfl); k_whole); intro b7_z x7_z y7_z n7_z hm7_z)) | with_reducible ((k_here; (with_reducible show wpAny _ _ (call (Value.builtin "len") [Value.ref _]) _ _ _); (refine' lenK_N ?zq32_N ?zq32_V ?zq32_s0 ?zq32_sm ?_; (case zq32_N => assumption); (case zq32_V => assumption); (case zq32_s0 => ((intro p hp; repeat (first | exact hp | refine List.mem_cons_of_mem _ ?_)))); (case zq32_sm => first | assumption | omega); k_whole))) | ((with_reducible show wpAny _ _ (call (Value.type "range") _) _ _ _); with_reducible ((k_here; first   | ((refine' range1_N ?zq33_F ?zq33_N ?_; (case zq33_F => assumption); (case zq33_N => assumption); k_whole); intro hq_z r7_z t71_z t73_z tk7_z hR7_z Fq_z Nq_z)   | ((refine' range2_N ?zq33_F ?zq33_N ?_; (case zq33_F => assumption); (case zq33_N => assumption); k_whole); intro hq_z r7_z t73_z tk7_z hR7_z Fq_z Nq_z)))) | walk1)))))
      refine ⟨_, _, _, news, rfl, by assumption, ?_, hoff, ⟨rfl, ?_⟩, ?_⟩
      · exact N4
      · intro i' h1 j' h2 h3
        simp only [List.length_map] at h3
        by_cases hi' : i' = i
        · subst hi'; exact hP4 j' h2 (by omega)
        · exact hP i' (by omega) j' h2 (by simpa using h3)
      · intro y h1 h2
        have h3 : ¬ y = Str.ofString "j" := fun q => by simp [q] at h2
        simp [h1, h3]
  case done =>
    rintro u4 h4 tk4 led4 ⟨eL, hP4⟩ F4 N4
    subst led4
    rw [goesB_true (by simpa using hP4)] at ret
    (repeat' ((first | (k_unfold; (try dsimp only)) | ((fail_if_success (with_reducible show wpAny _ _ (pyIter _) _ _ _)); (fail_if_success (with_reducible show LCg.CompSrc _ _ _ _ _ _ _ _ _ _ _ _ _ _)); (fail_if_success (with_reducible show LCt.CompSrcT _ _ _ _ _ _ _ _ _ _ _ _ _ _ _)); first | with_reducible ((k_here; (with_reducible show wpAny _ _ (eval (Expr.Name _ _) (compEnvC _ _ _ _)) _ _ _); k_dflt (refine' lcf_cell ?zq28_N ?zq28_c ?zq28_m ?zq28_d ?_ ?zq28_a ?zq28_b; (case zq28_a => rfl); (case zq28_b => rfl); (case zq28_N => k_asm); (case zq28_c => rfl); (case zq28_m => k_mem); (case zq28_d => k_asm); k_whole))) | ((with_reducible show wpAny _ _ (binaryOp Operator.BitAnd (Value.int _ _) (Value.int _ _)) _ _ _); with_reducible ((k_here; refine andNat ?_))) | with_reducible ((k_here; first   | ((with_reducible show wpAny _ _ (subscriptTail _ _ (Value.ref _) (Value.int 0 _)) _ _ _); (with_unfolding_all refine' item0_N ?zq30_N ?zq30_m ?zq30_s0 ?_ ?zq30_hs; (case zq30_N => assumption); (case zq30_m => assumption); (case zq30_s0 => ((intro p hp; repeat (first | exact hp | refine List.mem_cons_of_mem _ ?_)))); (case zq30_hs => with_unfolding_all rfl); k_whole))   | ((with_reducible show wpAny _ _ (subscriptTail _ _ (Value.ref _) (Value.int 1 _)) _ _ _); (with_unfolding_all refine' item1_N ?zq30_N ?zq30_m ?zq30_s0 ?_ ?zq30_hs; (case zq30_N => assumption); (case zq30_m => assumption); (case zq30_s0 => ((intro p hp; repeat (first | exact hp | refine List.mem_cons_of_mem _ ?_)))); (case zq30_hs => with_unfolding_all rfl); k_whole)))) | with_reducible ((k_here; (with_reducible show wpAny _ _ (subscriptTail _ _ (Value.ref _) (Value.int _ _)) _ _ _); (with_unfolding_all refine' itemK_N ?zq31_N ?zq31_V ?zq31_s0 ?zq31_lo ?zq31_hi ?zq31_sm ?_ ?zq31_hs; (case zq31_N => assumption); (case zq31_V => assumption); (case zq31_s0 => ((intro p hp; repeat (first | exact hp | refine List.mem_cons_of_mem _ ?_)))); (case zq31_lo => first | assumption | omega); (case zq31_hi => first | assumption | omega); (case zq31_sm => first | assumption | omega); (case zq31_hs => with_unfolding_all rfl); k_whole); intro b7_z x7_z y7_z n7_z hm7_z)) | with_reducible ((k_here; (with_reducible show wpAny _ _ (call (Value.builtin "len") [Value.ref _]) _ _ _); (refine' lenK_N ?zq32_N ?zq32_V ?zq32_s0 ?zq32_sm ?_; (case zq32_N => assumption); (case zq32_V => assumption); (case zq32_s0 => ((intro p hp; repeat (first | exact hp | refine List.mem_cons_of_mem _ ?_)))); (case zq32_sm => first | assumption | omega); k_whole))) | ((with_reducible show wpAny _ _ (call (Value.type "range") _) _ _ _); with_reducible ((k_here; first   | ((refine' range1_N ?zq33_F ?zq33_N ?_; (case zq33_F => assumption); (case zq33_N => assumption); k_whole); intro hq_z r7_z t71_z t73_z tk7_z hR7_z Fq_z Nq_z)   | ((refine' range2_N ?zq33_F ?zq33_N ?_; (case zq33_F => assumption); (case zq33_N => assumption); k_whole); intro hq_z r7_z t73_z tk7_z hR7_z Fq_z Nq_z)))) | walk1 | (dsimp only; first | with_reducible ((k_here; (with_reducible show wpAny _ _ (eval (Expr.Name _ _) (compEnvC _ _ _ _)) _ _ _); k_dflt (refine' lcf_cell ?zq28_N ?zq28_c ?zq28_m ?zq28_d ?_ ?zq28_a ?zq28_b; (case zq28_a => rfl); (case zq28_b => rfl); (case zq28_N => k_asm); (case zq28_c => rfl); (case zq28_m => k_mem); (case zq28_d => k_asm); k_whole))) | ((with_reducible show wpAny _ _ (binaryOp Operator.BitAnd (Value.int _ _) (Value.int _ _)) _ _ _); with_reducible ((k_here; refine andNat ?_))) | with_reducible ((k_here; first   | ((with_reducible show wpAny _ _ (subscriptTail _ _ (Value.ref _) (Value.int 0 _)) _ _ _); (with_unfolding_all refine' item0_N ?zq30_N ?zq30_m ?zq30_s0 ?_ ?zq30_hs; (case zq30_N => assumption); (case zq30_m => assumption); (case zq30_s0 => ((intro p hp; repeat (first | exact hp | refine List.mem_cons_of_mem _ ?_)))); (case zq30_hs => with_unfolding_all rfl); k_whole))   | ((with_reducible show wpAny _ _ (subscriptTail _ _ (Value.ref _) (Value.int 1 _)) _ _ _); (with_unfolding_all refine' item1_N ?zq30_N ?zq30_m ?zq30_s0 ?_ ?zq30_hs; (case zq30_N => assumption); (case zq30_m => assumption); (case zq30_s0 => ((intro p hp; repeat (first | exact hp | refine List.mem_cons_of_mem _ ?_)))); (case zq30_hs => with_unfolding_all rfl); k_whole)))) | with_reducible ((k_here; (with_reducible show wpAny _ _ (subscriptTail _ _ (Value.ref _) (Value.int _ _)) _ _ _); (with_unfolding_all refine' itemK_N ?zq31_N ?zq31_V ?zq31_s0 ?zq31_lo ?zq31_hi ?zq31_sm ?_ ?zq31_hs; (case zq31_N => assumption); (case zq31_V => assumption); (case zq31_s0 => ((intro p hp; repeat (first | exact hp | refine List.mem_cons_of_mem _ ?_)))); (case zq31_lo => first | assumption | omega); (case zq31_hi => first | assumption | omega); (case zq31_sm => first | assumption | omega); (case zq31_hs => with_unfolding_all rfl); k_whole); intro b7_z x7_z y7_z n7_z hm7_z)) | with_reducible ((k_here; (with_reducible show wpAny _ _ (call (Value.builtin "len") [Value.ref _]) _ _ _); (refine' lenK_N ?zq32_N ?zq32_V ?zq32_s0 ?zq32_sm ?_; (case zq32_N => assumption); (case zq32_V => assumption); (case zq32_s0 => ((intro p hp; repeat (first | exact hp | refine List.mem_cons_of_mem _ ?_)))); (case zq32_sm => first | assumption | omega); k_whole))) | ((with_reducible show wpAny _ _ (call (Value.type "range") _) _ _ _); with_reducible ((k_here; first   | ((refine' range1_N ?zq33_F ?zq33_N ?_; (case zq33_F => assumption); (case zq33_N => assumption); k_whole); intro hq_z r7_z t71_z t73_z tk7_z hR7_z Fq_z Nq_z)   | ((refine' range2_N ?zq33_F ?zq33_N ?_; (case zq33_F => assumption); (case zq33_N => assumption); k_whole); intro hq_z r7_z t73_z tk7_z hR7_z Fq_z Nq_z)))) | walk1)))))
    exact ret [] _ _ (by assumption) (by assumption)
end
section
theorem kernel_spec {v : Value} {ms : List Nat} (X : (KH w.params).In h₀) (B : Below A₀ base outer h₀) (F : Fr h₀ L s.heap m) (N : News h₀ L s.heap news) (T : Top VH loose mean mg mb h₀) (hk : cs.kind = .function)
    (hdp : dp + 10 < recursionLimit) (hun : un + 80 < cLine) (hV : SetsAt (byT w) news v ms) (hms : ms.length ≤ 8)
    (ret : ∀ tl h' tk' r, Fr h₀ L h' m → News h₀ L h' (tl ++ news) → Apart' tl news → KerAt tl r (kerOf ms) → Q r { s with heap := h', toks := tk' }) :
    wpAny (model PySem.Challenge.rw_pq0572_01.row.prog w) (ktrTop dp un gd cn cs L a ccd cl outer) (call (.ref 321) [v]) Q E s := by
  revert X; k_fill; intro X
  obtain ⟨va, its, n, rfl, hVm, hVz, hVi⟩ := id hV
  refine wpAny_call ?_
  k_dflt (((refine' code_defC ?zq6_k1 ?zq6_k2 ?zq6_k3 ?zq6_k4 ?zq6_k5 ?zq6_kA ?zq6_kF ?zq6_kK ?zq6_k6 ?zq6_k7 ?zq6_k8 ?zq6_k9 ?zq6_kB ?zq6_kD ?_ ?zq6_c2 ?zq6_c3 ?zq6_c4; (case zq6_kA => exact rfl); (case zq6_kF => exact rfl); (case zq6_kK => assumption); (case zq6_k1 => k_asm); (case zq6_k2 => k_asm); (case zq6_k3 => k_asm); (case zq6_k4 => k_asm); (case zq6_k5 => k_asm); (case zq6_k6 => k_is); (case zq6_k7 => k_is); (case zq6_k8 => ktr_room); (case zq6_k9 => first | exact BindsTo.of_eq rfl | exact binds_K (by k_in) rfl (by k_is) rfl rfl rfl); (case zq6_kB => exact rfl); (case zq6_kD => decide +kernel); (case zq6_c2 => exact rfl); (case zq6_c3 => exact rfl); (case zq6_c4 => exact rfl); k_whole)))
  intro g1 L1 h1 tk1 cells1 FG F1 N1 Y1 B1 X1 T1 l1
  obtain ⟨o1, rfl, d1⟩ := CellsAre.one Y1
  simp only [List.cons_append, List.nil_append] at N1
  clear Y1
  (try dsimp only); (try k_fold)
  replace d1 : o1.data = .cell (some (.ref va)) := d1.trans rfl
  replace F1 := (show Fr _ _ _ (fun _ => none) from F1)
  (repeat' ((first | (k_unfold; (try dsimp only)) | ((fail_if_success (with_reducible show wpAny _ _ (pyIter _) _ _ _)); (fail_if_success (with_reducible show LCg.CompSrc _ _ _ _ _ _ _ _ _ _ _ _ _ _)); (fail_if_success (with_reducible show LCt.CompSrcT _ _ _ _ _ _ _ _ _ _ _ _ _ _ _)); first | with_reducible ((k_here; (with_reducible show wpAny _ _ (eval (Expr.Name _ _) (compEnvC _ _ _ _)) _ _ _); k_dflt (refine' lcf_cell ?zq34_N ?zq34_c ?zq34_m ?zq34_d ?_ ?zq34_a ?zq34_b; (case zq34_a => rfl); (case zq34_b => rfl); (case zq34_N => k_asm); (case zq34_c => rfl); (case zq34_m => k_mem); (case zq34_d => k_asm); k_whole))) | ((with_reducible show wpAny _ _ (call (Value.type "tuple") _) _ _ _); with_reducible ((k_here; (with_reducible show wpAny _ _ (call (Value.type "tuple") [Value.ref _]) _ _ _); k_dflt (refine' tupOf_N ?zq35_F ?zq35_N ?zq35_a ?zq35_z ?_; (case zq35_F => k_asm); (case zq35_N => k_asm); (case zq35_a => k_mem); (case zq35_z => omega); k_whole); intro hq_z c7_z Fq_z Nq_z hne7_z))) | ((with_reducible show wpAny _ _ (newTuple _) _ _ _); with_reducible ((k_here; k_dflt (refine' tup_N ?zq36_F ?zq36_N ?zq36_z ?_; (case zq36_F => k_asm); (case zq36_N => k_asm); (case zq36_z => exact Nat.le_of_ble_eq_true rfl); k_whole); intro hq_z c7_z Fq_z Nq_z hne7_z))) | ((with_reducible show wpAny _ _ (call (Value.builtin "sum") _) _ _ _); with_reducible ((k_here; (with_reducible show wpAny _ _ (call (Value.builtin "sum") [Value.ref _]) _ _ _); (refine' sumL_N ?zq37_hh ?zq37_F ?zq37_N ?zq37_a ?zq37_I ?_; (case zq37_hh => rfl); (case zq37_F => k_asm); (case zq37_N => k_asm); (case zq37_a => k_mem); (case zq37_I => assumption); k_whole); intro hq_z tkq_z tq_z Fq_z Nq_z))) | ((with_reducible show wpAny _ _ (binaryOp Operator.Pow (Value.int _ _) (Value.int _ _)) _ _ _); with_reducible ((k_here; (refine pow2_N ?zq38_h0 ?zq38_h5 ?_); (case zq38_h0 => omega); (case zq38_h5 => omega)))) | ((with_reducible show wpAny _ _ (eval (Expr.ListComp _ _ _ _) _) _ _ _); with_reducible ((k_here; k_dflt (first   | (refine LCg.ListComp_U (F₀ := by k_asm) (by with_unfolding_all rfl) (by decide) (by rfl) (by decide) (by rfl) ?_)   | (refine LCt.ListComp_T (F₀ := by k_asm) (by with_unfolding_all rfl) (by decide) (by rfl) (by decide) (by rfl) ?_))))) | ((with_reducible show wpAny _ _ (call (Value.builtin "sorted") _) _ _ _); ((k_here; (with_reducible show wpAny _ _ (call (Value.builtin "sorted") [Value.ref _]) _ _ _); (refine' sorted_N ?zq40_hh ?zq40_F ?zq40_N ?zq40_a ?zq40_s0 ?zq40_M ?_; (case zq40_hh => rfl); (case zq40_F => k_asm); (case zq40_N => k_asm); (case zq40_a => assumption); (case zq40_s0 => ((intro p hp; repeat (first | exact hp | refine List.mem_cons_of_mem _ ?_)))); (case zq40_M => assumption); k_whole); intro hq_z c7_z vs7_z e7_z Fq_z Nq_z hI7_z hm7_z hne7_z))) | with_reducible ((k_here; (with_reducible show wpAny _ _ (subscriptTail _ _ (Value.ref _) (Value.int _ _)) _ _ _); (with_unfolding_all refine' itemK_N ?zq41_N ?zq41_V ?zq41_s0 ?zq41_lo ?zq41_hi ?zq41_sm ?_ ?zq41_hs; (case zq41_N => assumption); (case zq41_V => assumption); (case zq41_s0 => ((intro p hp; repeat (first | exact hp | refine List.mem_cons_of_mem _ ?_)))); (case zq41_lo => first | assumption | omega); (case zq41_hi => first | assumption | omega); (case zq41_sm => first | assumption | omega); (case zq41_hs => with_unfolding_all rfl); k_whole); intro b7_z x7_z y7_z n7_z hm7_z)) | with_reducible ((k_here; (with_reducible show wpAny _ _ (call (Value.builtin "len") [Value.ref _]) _ _ _); (refine' lenK_N ?zq42_N ?zq42_V ?zq42_s0 ?zq42_sm ?_; (case zq42_N => assumption); (case zq42_V => assumption); (case zq42_s0 => ((intro p hp; repeat (first | exact hp | refine List.mem_cons_of_mem _ ?_)))); (case zq42_sm => first | assumption | omega); k_whole))) | ((with_reducible show wpAny _ _ (call (Value.type "range") _) _ _ _); with_reducible ((k_here; first   | ((refine' range1_N ?zq43_F ?zq43_N ?_; (case zq43_F => assumption); (case zq43_N => assumption); k_whole); intro hq_z r7_z t71_z t73_z tk7_z hR7_z Fq_z Nq_z)   | ((refine' range2_N ?zq43_F ?zq43_N ?_; (case zq43_F => assumption); (case zq43_N => assumption); k_whole); intro hq_z r7_z t73_z tk7_z hR7_z Fq_z Nq_z)))) | with_reducible ((k_here; (with_reducible show wpAny _ _ (call (Value.builtin "len") [Value.ref _]) _ _ _); (refine' len_N ?zq44_N ?zq44_V ?zq44_s0 ?zq44_sm ?_; (case zq44_N => assumption); (case zq44_V => assumption); (case zq44_s0 => ((intro p hp; repeat (first | exact hp | refine List.mem_cons_of_mem _ ?_)))); (case zq44_sm => first | assumption | omega); k_whole))) | with_reducible ((k_here; (with_reducible show wpAny _ _ (subscriptTail _ _ (Value.ref _) (Value.int _ _)) _ _ _); (with_unfolding_all refine' item_N ?zq45_N ?zq45_V ?zq45_s0 ?zq45_lo ?zq45_hi ?zq45_sm ?_ ?zq45_hs; (case zq45_N => assumption); (case zq45_V => assumption); (case zq45_s0 => ((intro p hp; repeat (first | exact hp | refine List.mem_cons_of_mem _ ?_)))); (case zq45_lo => first | assumption | omega); (case zq45_hi => first | assumption | omega); (case zq45_sm => first | assumption | omega); (case zq45_hs => with_unfolding_all rfl); k_whole); intro a7_z o7_z hm7_z hI7_z)) | walk1 | (dsimp only; first | with_reducible ((k_here; (with_reducible show wpAny _ _ (eval (Expr.Name _ _) (compEnvC _ _ _ _)) _ _ _); k_dflt (refine' lcf_cell ?zq34_N ?zq34_c ?zq34_m ?zq34_d ?_ ?zq34_a ?zq34_b; (case zq34_a => rfl); (case zq34_b => rfl); (case zq34_N => k_asm); (case zq34_c => rfl); (case zq34_m => k_mem); (case zq34_d => k_asm); k_whole))) | ((with_reducible show wpAny _ _ (call (Value.type "tuple") _) _ _ _); with_reducible ((k_here; (with_reducible show wpAny _ _ (call (Value.type "tuple") [Value.ref _]) _ _ _); k_dflt (refine' tupOf_N ?zq35_F ?zq35_N ?zq35_a ?zq35_z ?_; (case zq35_F => k_asm); (case zq35_N => k_asm); (case zq35_a => k_mem); (case zq35_z => omega); k_whole); intro hq_z c7_z Fq_z Nq_z hne7_z))) | ((with_reducible show wpAny _ _ (newTuple _) _ _ _); with_reducible ((k_here; k_dflt (refine' tup_N ?zq36_F ?zq36_N ?zq36_z ?_; (case zq36_F => k_asm); (case zq36_N => k_asm); (case zq36_z => exact Nat.le_of_ble_eq_true rfl); k_whole); intro hq_z c7_z Fq_z Nq_z hne7_z))) | ((with_reducible show wpAny _ _ (call (Value.builtin "sum") _) _ _ _); with_reducible ((k_here; (with_reducible show wpAny _ _ (call (Value.builtin "sum") [Value.ref _]) _ _ _); (refine' sumL_N ?zq37_hh ?zq37_F ?zq37_N ?zq37_a ?zq37_I ?_; (case zq37_hh => rfl); (case zq37_F => k_asm); (case zq37_N => k_asm); (case zq37_a => k_mem); (case zq37_I => assumption); k_whole); intro hq_z tkq_z tq_z Fq_z Nq_z))) | ((with_reducible show wpAny _ _ (binaryOp Operator.Pow (Value.int _ _) (Value.int _ _)) _ _ _); with_reducible ((k_here; (refine pow2_N ?zq38_h0 ?zq38_h5 ?_); (case zq38_h0 => omega); (case zq38_h5 => omega)))) | ((with_reducible show wpAny _ _ (eval (Expr.ListComp _ _ _ _) _) _ _ _); with_reducible ((k_here; k_dflt (first   | (refine LCg.ListComp_U (F₀ := by k_asm) (by with_unfolding_all rfl) (by decide) (by rfl) (by decide) (by rfl) ?_)   | (refine LCt.ListComp_T (F₀ := by k_asm) (by with_unfolding_all rfl) (by decide) (by rfl) (by decide) (by rfl) ?_))))) | ((with_reducible show wpAny _ _ (call (Value.builtin "sorted") _) _ _ _); ((k_here; (with_reducible show wpAny _ _ (call (Value.builtin "sorted") [Value.ref _]) _ _ _); (refine' sorted_N ?zq40_hh ?zq40_F ?zq40_N ?zq40_a ?zq40_s0 ?zq40_M ?_; (case zq40_hh => rfl); (case zq40_F => k_asm); (case zq40_N => k_asm); (case zq40_a => assumption); (case zq40_s0 => ((intro p hp; repeat (first | exact hp | refine List.mem_cons_of_mem _ ?_)))); (case zq40_M => assumption); k_whole); intro hq_z c7_z vs7_z e7_z Fq_z Nq_z hI7_z hm7_z hne7_z))) | with_reducible ((k_here; (with_reducible show wpAny _ _ (subscriptTail _ _ (Value.ref _) (Value.int _ _)) _ _ _); (with_unfolding_all refine' itemK_N ?zq41_N ?zq41_V ?zq41_s0 ?zq41_lo ?zq41_hi ?zq41_sm ?_ ?zq41_hs; (case zq41_N => assumption); (case zq41_V => assumption); (case zq41_s0 => ((intro p hp; repeat (first | exact hp | refine List.mem_cons_of_mem _ ?_)))); (case zq41_lo => first | assumption | omega); (case zq41_hi => first | assumption | omega); (case zq41_sm => first | assumption | omega); (case zq41_hs => with_unfolding_all rfl); k_whole); intro b7_z x7_z y7_z n7_z hm7_z)) | with_reducible ((k_here; (with_reducible show wpAny _ _ (call (Value.builtin "len") [Value.ref _]) _ _ _); (refine' lenK_N ?zq42_N ?zq42_V ?zq42_s0 ?zq42_sm ?_; (case zq42_N => assumption); (case zq42_V => assumption); (case zq42_s0 => ((intro p hp; repeat (first | exact hp | refine List.mem_cons_of_mem _ ?_)))); (case zq42_sm => first | assumption | omega); k_whole))) | ((with_reducible show wpAny _ _ (call (Value.type "range") _) _ _ _); with_reducible ((k_here; first   | ((refine' range1_N ?zq43_F ?zq43_N ?_; (case zq43_F => assumption); (case zq43_N => assumption); k_whole); intro hq_z r7_z t71_z t73_z tk7_z hR7_z Fq_z Nq_z)   | ((refine' range2_N ?zq43_F ?zq43_N ?_; (case zq43_F => assumption); (case zq43_N => assumption); k_whole); intro hq_z r7_z t73_z tk7_z hR7_z Fq_z Nq_z)))) | with_reducible ((k_here; (with_reducible show wpAny _ _ (call (Value.builtin "len") [Value.ref _]) _ _ _); (refine' len_N ?zq44_N ?zq44_V ?zq44_s0 ?zq44_sm ?_; (case zq44_N => assumption); (case zq44_V => assumption); (case zq44_s0 => ((intro p hp; repeat (first | exact hp | refine List.mem_cons_of_mem _ ?_)))); (case zq44_sm => first | assumption | omega); k_whole))) | with_reducible ((k_here; (with_reducible show wpAny _ _ (subscriptTail _ _ (Value.ref _) (Value.int _ _)) _ _ _); (with_unfolding_all refine' item_N ?zq45_N ?zq45_V ?zq45_s0 ?zq45_lo ?zq45_hi ?zq45_sm ?_ ?zq45_hs; (case zq45_N => assumption); (case zq45_V => assumption); (case zq45_s0 => ((intro p hp; repeat (first | exact hp | refine List.mem_cons_of_mem _ ?_)))); (case zq45_lo => first | assumption | omega); (case zq45_hi => first | assumption | omega); (case zq45_sm => first | assumption | omega); (case zq45_hs => with_unfolding_all rfl); k_whole); intro a7_z o7_z hm7_z hI7_z)) | walk1)))))
  ((k_here; first   | (refine' LCg.CompSrc.ledger ?zq5_hh ?zq5_F ?zq5_N ?zq5_hm ?zq5_sz ?_; (case zq5_hh => rfl); (case zq5_F => k_asm); (case zq5_N => k_asm); (case zq5_hm => k_mem); (case zq5_sz => ((try simp only [List.size_toArray]); rw [sizeLine_eq]; omega)); k_whole; intro g7)   | (refine' LCg.CompSrc.range ?zq5_hh ?zq5_F ?zq5_N ?zq5_hr ?zq5_sm ?zq5_n ?zq5_sz ?_; (case zq5_hh => rfl); (case zq5_F => k_asm); (case zq5_N => k_asm); (case zq5_hr => assumption); (case zq5_sm => exact small_one (by omega) (by omega) (by omega) (by omega)); (case zq5_n => exact rs0 _); (case zq5_sz => (rw [sizeLine_eq]; omega)); k_whole; intro g7)))
  refine compRest (G := fun i ys led => ∃ tl, led = (L1 + 1, o1) :: (tl ++ news) ∧ Apart' tl news ∧ ys.length = i ∧ ∀ (j : Nat) (x : Value), ys[j]? = some x → PairAt tl x (10 + 3 * (j : Int), ms.getD j 0)) ⟨[], rfl, Apart'.nil, rfl, fun j x e => by simp at e⟩ ?turn ?fin
  case turn =>
    rintro i ys led v I oI C oC D m₂ h tk E' hi ⟨tl, rfl, hA, hl, hP⟩ ⟨t, rfl⟩ hC hx F2 N2 off ne
    have V2 : SetsAt (byT w) (tl ++ news) (.ref va) ms := hV.mono fun p hp => List.mem_append_right _ hp
    (repeat' ((first | (k_unfold; (try dsimp only)) | ((fail_if_success (with_reducible show wpAny _ _ (pyIter _) _ _ _)); (fail_if_success (with_reducible show LCg.CompSrc _ _ _ _ _ _ _ _ _ _ _ _ _ _)); (fail_if_success (with_reducible show LCt.CompSrcT _ _ _ _ _ _ _ _ _ _ _ _ _ _ _)); first | with_reducible ((k_here; (with_reducible show wpAny _ _ (eval (Expr.Name _ _) (compEnvC _ _ _ _)) _ _ _); k_dflt (refine' lcf_cell ?zq34_N ?zq34_c ?zq34_m ?zq34_d ?_ ?zq34_a ?zq34_b; (case zq34_a => rfl); (case zq34_b => rfl); (case zq34_N => k_asm); (case zq34_c => rfl); (case zq34_m => k_mem); (case zq34_d => k_asm); k_whole))) | ((with_reducible show wpAny _ _ (call (Value.type "tuple") _) _ _ _); with_reducible ((k_here; (with_reducible show wpAny _ _ (call (Value.type "tuple") [Value.ref _]) _ _ _); k_dflt (refine' tupOf_N ?zq35_F ?zq35_N ?zq35_a ?zq35_z ?_; (case zq35_F => k_asm); (case zq35_N => k_asm); (case zq35_a => k_mem); (case zq35_z => omega); k_whole); intro hq_z c7_z Fq_z Nq_z hne7_z))) | ((with_reducible show wpAny _ _ (newTuple _) _ _ _); with_reducible ((k_here; k_dflt (refine' tup_N ?zq36_F ?zq36_N ?zq36_z ?_; (case zq36_F => k_asm); (case zq36_N => k_asm); (case zq36_z => exact Nat.le_of_ble_eq_true rfl); k_whole); intro hq_z c7_z Fq_z Nq_z hne7_z))) | ((with_reducible show wpAny _ _ (call (Value.builtin "sum") _) _ _ _); with_reducible ((k_here; (with_reducible show wpAny _ _ (call (Value.builtin "sum") [Value.ref _]) _ _ _); (refine' sumL_N ?zq37_hh ?zq37_F ?zq37_N ?zq37_a ?zq37_I ?_; (case zq37_hh => rfl); (case zq37_F => k_asm); (case zq37_N => k_asm); (case zq37_a => k_mem); (case zq37_I => assumption); k_whole); intro hq_z tkq_z tq_z Fq_z Nq_z))) | ((with_reducible show wpAny _ _ (binaryOp Operator.Pow (Value.int _ _) (Value.int _ _)) _ _ _); with_reducible ((k_here; (refine pow2_N ?zq38_h0 ?zq38_h5 ?_); (case zq38_h0 => omega); (case zq38_h5 => omega)))) | ((with_reducible show wpAny _ _ (eval (Expr.ListComp _ _ _ _) _) _ _ _); with_reducible ((k_here; k_dflt (first   | (refine LCg.ListComp_U (F₀ := by k_asm) (by with_unfolding_all rfl) (by decide) (by rfl) (by decide) (by rfl) ?_)   | (refine LCt.ListComp_T (F₀ := by k_asm) (by with_unfolding_all rfl) (by decide) (by rfl) (by decide) (by rfl) ?_))))) | ((with_reducible show wpAny _ _ (call (Value.builtin "sorted") _) _ _ _); ((k_here; (with_reducible show wpAny _ _ (call (Value.builtin "sorted") [Value.ref _]) _ _ _); (refine' sorted_N ?zq40_hh ?zq40_F ?zq40_N ?zq40_a ?zq40_s0 ?zq40_M ?_; (case zq40_hh => rfl); (case zq40_F => k_asm); (case zq40_N => k_asm); (case zq40_a => assumption); (case zq40_s0 => ((intro p hp; repeat (first | exact hp | refine List.mem_cons_of_mem _ ?_)))); (case zq40_M => assumption); k_whole); intro hq_z c7_z vs7_z e7_z Fq_z Nq_z hI7_z hm7_z hne7_z))) | with_reducible ((k_here; (with_reducible show wpAny _ _ (subscriptTail _ _ (Value.ref _) (Value.int _ _)) _ _ _); (with_unfolding_all refine' itemK_N ?zq41_N ?zq41_V ?zq41_s0 ?zq41_lo ?zq41_hi ?zq41_sm ?_ ?zq41_hs; (case zq41_N => assumption); (case zq41_V => assumption); (case zq41_s0 => ((intro p hp; repeat (first | exact hp | refine List.mem_cons_of_mem _ ?_)))); (case zq41_lo => first | assumption | omega); (case zq41_hi => first | assumption | omega); (case zq41_sm => first | assumption | omega); (case zq41_hs => with_unfolding_all rfl); k_whole); intro b7_z x7_z y7_z n7_z hm7_z)) | with_reducible ((k_here; (with_reducible show wpAny _ _ (call (Value.builtin "len") [Value.ref _]) _ _ _); (refine' lenK_N ?zq42_N ?zq42_V ?zq42_s0 ?zq42_sm ?_; (case zq42_N => assumption); (case zq42_V => assumption); (case zq42_s0 => ((intro p hp; repeat (first | exact hp | refine List.mem_cons_of_mem _ ?_)))); (case zq42_sm => first | assumption | omega); k_whole))) | ((with_reducible show wpAny _ _ (call (Value.type "range") _) _ _ _); with_reducible ((k_here; first   | ((refine' range1_N ?zq43_F ?zq43_N ?_; (case zq43_F => assumption); (case zq43_N => assumption); k_whole); intro hq_z r7_z t71_z t73_z tk7_z hR7_z Fq_z Nq_z)   | ((refine' range2_N ?zq43_F ?zq43_N ?_; (case zq43_F => assumption); (case zq43_N => assumption); k_whole); intro hq_z r7_z t73_z tk7_z hR7_z Fq_z Nq_z)))) | with_reducible ((k_here; (with_reducible show wpAny _ _ (call (Value.builtin "len") [Value.ref _]) _ _ _); (refine' len_N ?zq44_N ?zq44_V ?zq44_s0 ?zq44_sm ?_; (case zq44_N => assumption); (case zq44_V => assumption); (case zq44_s0 => ((intro p hp; repeat (first | exact hp | refine List.mem_cons_of_mem _ ?_)))); (case zq44_sm => first | assumption | omega); k_whole))) | with_reducible ((k_here; (with_reducible show wpAny _ _ (subscriptTail _ _ (Value.ref _) (Value.int _ _)) _ _ _); (with_unfolding_all refine' item_N ?zq45_N ?zq45_V ?zq45_s0 ?zq45_lo ?zq45_hi ?zq45_sm ?_ ?zq45_hs; (case zq45_N => assumption); (case zq45_V => assumption); (case zq45_s0 => ((intro p hp; repeat (first | exact hp | refine List.mem_cons_of_mem _ ?_)))); (case zq45_lo => first | assumption | omega); (case zq45_hi => first | assumption | omega); (case zq45_sm => first | assumption | omega); (case zq45_hs => with_unfolding_all rfl); k_whole); intro a7_z o7_z hm7_z hI7_z)) | walk1 | (dsimp only; first | with_reducible ((k_here; (with_reducible show wpAny _ _ (eval (Expr.Name _ _) (compEnvC _ _ _ _)) _ _ _); k_dflt (refine' lcf_cell ?zq34_N ?zq34_c ?zq34_m ?zq34_d ?_ ?zq34_a ?zq34_b; (case zq34_a => rfl); (case zq34_b => rfl); (case zq34_N => k_asm); (case zq34_c => rfl); (case zq34_m => k_mem); (case zq34_d => k_asm); k_whole))) | ((with_reducible show wpAny _ _ (call (Value.type "tuple") _) _ _ _); with_reducible ((k_here; (with_reducible show wpAny _ _ (call (Value.type "tuple") [Value.ref _]) _ _ _); k_dflt (refine' tupOf_N ?zq35_F ?zq35_N ?zq35_a ?zq35_z ?_; (case zq35_F => k_asm); (case zq35_N => k_asm); (case zq35_a => k_mem); (case zq35_z => omega); k_whole); intro hq_z c7_z Fq_z Nq_z hne7_z))) | ((with_reducible show wpAny _ _ (newTuple _) _ _ _); with_reducible ((k_here; k_dflt (refine' tup_N ?zq36_F ?zq36_N ?zq36_z ?_; (case zq36_F => k_asm); (case zq36_N => k_asm); (case zq36_z => exact Nat.le_of_ble_eq_true rfl); k_whole); intro hq_z c7_z Fq_z Nq_z hne7_z))) | ((with_reducible show wpAny _ _ (call (Value.builtin "sum") _) _ _ _); with_reducible ((k_here; (with_reducible show wpAny _ _ (call (Value.builtin "sum") [Value.ref _]) _ _ _); (refine' sumL_N ?zq37_hh ?zq37_F ?zq37_N ?zq37_a ?zq37_I ?_; (case zq37_hh => rfl); (case zq37_F => k_asm); (case zq37_N => k_asm); (case zq37_a => k_mem); (case zq37_I => assumption); k_whole); intro hq_z tkq_z tq_z Fq_z Nq_z))) | ((with_reducible show wpAny _ _ (binaryOp Operator.Pow (Value.int _ _) (Value.int _ _)) _ _ _); with_reducible ((k_here; (refine pow2_N ?zq38_h0 ?zq38_h5 ?_); (case zq38_h0 => omega); (case zq38_h5 => omega)))) | ((with_reducible show wpAny _ _ (eval (Expr.ListComp _ _ _ _) _) _ _ _); with_reducible ((k_here; k_dflt (first   | (refine LCg.ListComp_U (F₀ := by k_asm) (by with_unfolding_all rfl) (by decide) (by rfl) (by decide) (by rfl) ?_)   | (refine LCt.ListComp_T (F₀ := by k_asm) (by with_unfolding_all rfl) (by decide) (by rfl) (by decide) (by rfl) ?_))))) | ((with_reducible show wpAny _ _ (call (Value.builtin "sorted") _) _ _ _); ((k_here; (with_reducible show wpAny _ _ (call (Value.builtin "sorted") [Value.ref _]) _ _ _); (refine' sorted_N ?zq40_hh ?zq40_F ?zq40_N ?zq40_a ?zq40_s0 ?zq40_M ?_; (case zq40_hh => rfl); (case zq40_F => k_asm); (case zq40_N => k_asm); (case zq40_a => assumption); (case zq40_s0 => ((intro p hp; repeat (first | exact hp | refine List.mem_cons_of_mem _ ?_)))); (case zq40_M => assumption); k_whole); intro hq_z c7_z vs7_z e7_z Fq_z Nq_z hI7_z hm7_z hne7_z))) | with_reducible ((k_here; (with_reducible show wpAny _ _ (subscriptTail _ _ (Value.ref _) (Value.int _ _)) _ _ _); (with_unfolding_all refine' itemK_N ?zq41_N ?zq41_V ?zq41_s0 ?zq41_lo ?zq41_hi ?zq41_sm ?_ ?zq41_hs; (case zq41_N => assumption); (case zq41_V => assumption); (case zq41_s0 => ((intro p hp; repeat (first | exact hp | refine List.mem_cons_of_mem _ ?_)))); (case zq41_lo => first | assumption | omega); (case zq41_hi => first | assumption | omega); (case zq41_sm => first | assumption | omega); (case zq41_hs => with_unfolding_all rfl); k_whole); intro b7_z x7_z y7_z n7_z hm7_z)) | with_reducible ((k_here; (with_reducible show wpAny _ _ (call (Value.builtin "len") [Value.ref _]) _ _ _); (refine' lenK_N ?zq42_N ?zq42_V ?zq42_s0 ?zq42_sm ?_; (case zq42_N => assumption); (case zq42_V => assumption); (case zq42_s0 => ((intro p hp; repeat (first | exact hp | refine List.mem_cons_of_mem _ ?_)))); (case zq42_sm => first | assumption | omega); k_whole))) | ((with_reducible show wpAny _ _ (call (Value.type "range") _) _ _ _); with_reducible ((k_here; first   | ((refine' range1_N ?zq43_F ?zq43_N ?_; (case zq43_F => assumption); (case zq43_N => assumption); k_whole); intro hq_z r7_z t71_z t73_z tk7_z hR7_z Fq_z Nq_z)   | ((refine' range2_N ?zq43_F ?zq43_N ?_; (case zq43_F => assumption); (case zq43_N => assumption); k_whole); intro hq_z r7_z t73_z tk7_z hR7_z Fq_z Nq_z)))) | with_reducible ((k_here; (with_reducible show wpAny _ _ (call (Value.builtin "len") [Value.ref _]) _ _ _); (refine' len_N ?zq44_N ?zq44_V ?zq44_s0 ?zq44_sm ?_; (case zq44_N => assumption); (case zq44_V => assumption); (case zq44_s0 => ((intro p hp; repeat (first | exact hp | refine List.mem_cons_of_mem _ ?_)))); (case zq44_sm => first | assumption | omega); k_whole))) | with_reducible ((k_here; (with_reducible show wpAny _ _ (subscriptTail _ _ (Value.ref _) (Value.int _ _)) _ _ _); (with_unfolding_all refine' item_N ?zq45_N ?zq45_V ?zq45_s0 ?zq45_lo ?zq45_hi ?zq45_sm ?_ ?zq45_hs; (case zq45_N => assumption); (case zq45_V => assumption); (case zq45_s0 => ((intro p hp; repeat (first | exact hp | refine List.mem_cons_of_mem _ ?_)))); (case zq45_lo => first | assumption | omega); (case zq45_hi => first | assumption | omega); (case zq45_sm => first | assumption | omega); (case zq45_hs => with_unfolding_all rfl); k_whole); intro a7_z o7_z hm7_z hI7_z)) | walk1)))))
    rename IntsAre _ _ => hvs
    rename (_ < 32) => hm32
    rename New _ _ => hne
    rename List Value => vs7
    have e1 : (0 + (i : Int)).toNat = i := by omega
    rw [e1] at hvs hm32
    have hlen := hvs.length
    have h5 := vals_len hm32
    rw [intsM, List.length_map] at hlen
    ((k_here; first   | (refine' LCg.CompSrc.ledger ?zq5_hh ?zq5_F ?zq5_N ?zq5_hm ?zq5_sz ?_; (case zq5_hh => rfl); (case zq5_F => k_asm); (case zq5_N => k_asm); (case zq5_hm => k_mem); (case zq5_sz => ((try simp only [List.size_toArray]); rw [sizeLine_eq]; omega)); k_whole; intro g7)   | (refine' LCg.CompSrc.range ?zq5_hh ?zq5_F ?zq5_N ?zq5_hr ?zq5_sm ?zq5_n ?zq5_sz ?_; (case zq5_hh => rfl); (case zq5_F => k_asm); (case zq5_N => k_asm); (case zq5_hr => assumption); (case zq5_sm => exact small_one (by omega) (by omega) (by omega) (by omega)); (case zq5_n => exact rs0 _); (case zq5_sz => (rw [sizeLine_eq]; omega)); k_whole; intro g7)))
    refine compRestF (G := fun k zs => IntsAre zs (((intsM (ms.getD i 0)).take k).map fun j => (2 : Int) ^ j.toNat)) .nil ?turn2 ?fin2
    case turn2 =>
      intro i2 ys2 v2 I2 oI2 C2 oC2 D2 m2 h2 tk2 E2 hi2 hG hP2 hC2 hx2 F3 N3 off3 ne3
      obtain ⟨k, t2, rfl, hk2⟩ := hvs.at i2 v2 (by simpa using hP2)
      have hs2 := ints_small k (List.mem_of_getElem? hk2)
      (repeat' ((first | (k_unfold; (try dsimp only)) | ((fail_if_success (with_reducible show wpAny _ _ (pyIter _) _ _ _)); (fail_if_success (with_reducible show LCg.CompSrc _ _ _ _ _ _ _ _ _ _ _ _ _ _)); (fail_if_success (with_reducible show LCt.CompSrcT _ _ _ _ _ _ _ _ _ _ _ _ _ _ _)); first | with_reducible ((k_here; (with_reducible show wpAny _ _ (eval (Expr.Name _ _) (compEnvC _ _ _ _)) _ _ _); k_dflt (refine' lcf_cell ?zq34_N ?zq34_c ?zq34_m ?zq34_d ?_ ?zq34_a ?zq34_b; (case zq34_a => rfl); (case zq34_b => rfl); (case zq34_N => k_asm); (case zq34_c => rfl); (case zq34_m => k_mem); (case zq34_d => k_asm); k_whole))) | ((with_reducible show wpAny _ _ (call (Value.type "tuple") _) _ _ _); with_reducible ((k_here; (with_reducible show wpAny _ _ (call (Value.type "tuple") [Value.ref _]) _ _ _); k_dflt (refine' tupOf_N ?zq35_F ?zq35_N ?zq35_a ?zq35_z ?_; (case zq35_F => k_asm); (case zq35_N => k_asm); (case zq35_a => k_mem); (case zq35_z => omega); k_whole); intro hq_z c7_z Fq_z Nq_z hne7_z))) | ((with_reducible show wpAny _ _ (newTuple _) _ _ _); with_reducible ((k_here; k_dflt (refine' tup_N ?zq36_F ?zq36_N ?zq36_z ?_; (case zq36_F => k_asm); (case zq36_N => k_asm); (case zq36_z => exact Nat.le_of_ble_eq_true rfl); k_whole); intro hq_z c7_z Fq_z Nq_z hne7_z))) | ((with_reducible show wpAny _ _ (call (Value.builtin "sum") _) _ _ _); with_reducible ((k_here; (with_reducible show wpAny _ _ (call (Value.builtin "sum") [Value.ref _]) _ _ _); (refine' sumL_N ?zq37_hh ?zq37_F ?zq37_N ?zq37_a ?zq37_I ?_; (case zq37_hh => rfl); (case zq37_F => k_asm); (case zq37_N => k_asm); (case zq37_a => k_mem); (case zq37_I => assumption); k_whole); intro hq_z tkq_z tq_z Fq_z Nq_z))) | ((with_reducible show wpAny _ _ (binaryOp Operator.Pow (Value.int _ _) (Value.int _ _)) _ _ _); with_reducible ((k_here; (refine pow2_N ?zq38_h0 ?zq38_h5 ?_); (case zq38_h0 => omega); (case zq38_h5 => omega)))) | ((with_reducible show wpAny _ _ (eval (Expr.ListComp _ _ _ _) _) _ _ _); with_reducible ((k_here; k_dflt (first   | (refine LCg.ListComp_U (F₀ := by k_asm) (by with_unfolding_all rfl) (by decide) (by rfl) (by decide) (by rfl) ?_)   | (refine LCt.ListComp_T (F₀ := by k_asm) (by with_unfolding_all rfl) (by decide) (by rfl) (by decide) (by rfl) ?_))))) | ((with_reducible show wpAny _ _ (call (Value.builtin "sorted") _) _ _ _); ((k_here; (with_reducible show wpAny _ _ (call (Value.builtin "sorted") [Value.ref _]) _ _ _); (refine' sorted_N ?zq40_hh ?zq40_F ?zq40_N ?zq40_a ?zq40_s0 ?zq40_M ?_; (case zq40_hh => rfl); (case zq40_F => k_asm); (case zq40_N => k_asm); (case zq40_a => assumption); (case zq40_s0 => ((intro p hp; repeat (first | exact hp | refine List.mem_cons_of_mem _ ?_)))); (case zq40_M => assumption); k_whole); intro hq_z c7_z vs7_z e7_z Fq_z Nq_z hI7_z hm7_z hne7_z))) | with_reducible ((k_here; (with_reducible show wpAny _ _ (subscriptTail _ _ (Value.ref _) (Value.int _ _)) _ _ _); (with_unfolding_all refine' itemK_N ?zq41_N ?zq41_V ?zq41_s0 ?zq41_lo ?zq41_hi ?zq41_sm ?_ ?zq41_hs; (case zq41_N => assumption); (case zq41_V => assumption); (case zq41_s0 => ((intro p hp; repeat (first | exact hp | refine List.mem_cons_of_mem _ ?_)))); (case zq41_lo => first | assumption | omega); (case zq41_hi => first | assumption | omega); (case zq41_sm => first | assumption | omega); (case zq41_hs => with_unfolding_all rfl); k_whole); intro b7_z x7_z y7_z n7_z hm7_z)) | with_reducible ((k_here; (with_reducible show wpAny _ _ (call (Value.builtin "len") [Value.ref _]) _ _ _); (refine' lenK_N ?zq42_N ?zq42_V ?zq42_s0 ?zq42_sm ?_; (case zq42_N => assumption); (case zq42_V => assumption); (case zq42_s0 => ((intro p hp; repeat (first | exact hp | refine List.mem_cons_of_mem _ ?_)))); (case zq42_sm => first | assumption | omega); k_whole))) | ((with_reducible show wpAny _ _ (call (Value.type "range") _) _ _ _); with_reducible ((k_here; first   | ((refine' range1_N ?zq43_F ?zq43_N ?_; (case zq43_F => assumption); (case zq43_N => assumption); k_whole); intro hq_z r7_z t71_z t73_z tk7_z hR7_z Fq_z Nq_z)   | ((refine' range2_N ?zq43_F ?zq43_N ?_; (case zq43_F => assumption); (case zq43_N => assumption); k_whole); intro hq_z r7_z t73_z tk7_z hR7_z Fq_z Nq_z)))) | with_reducible ((k_here; (with_reducible show wpAny _ _ (call (Value.builtin "len") [Value.ref _]) _ _ _); (refine' len_N ?zq44_N ?zq44_V ?zq44_s0 ?zq44_sm ?_; (case zq44_N => assumption); (case zq44_V => assumption); (case zq44_s0 => ((intro p hp; repeat (first | exact hp | refine List.mem_cons_of_mem _ ?_)))); (case zq44_sm => first | assumption | omega); k_whole))) | with_reducible ((k_here; (with_reducible show wpAny _ _ (subscriptTail _ _ (Value.ref _) (Value.int _ _)) _ _ _); (with_unfolding_all refine' item_N ?zq45_N ?zq45_V ?zq45_s0 ?zq45_lo ?zq45_hi ?zq45_sm ?_ ?zq45_hs; (case zq45_N => assumption); (case zq45_V => assumption); (case zq45_s0 => ((intro p hp; repeat (first | exact hp | refine List.mem_cons_of_mem _ ?_)))); (case zq45_lo => first | assumption | omega); (case zq45_hi => first | assumption | omega); (case zq45_sm => first | assumption | omega); (case zq45_hs => with_unfolding_all rfl); k_whole); intro a7_z o7_z hm7_z hI7_z)) | walk1 | (dsimp only; first | with_reducible ((k_here; (with_reducible show wpAny _ _ (eval (Expr.Name _ _) (compEnvC _ _ _ _)) _ _ _); k_dflt (refine' lcf_cell ?zq34_N ?zq34_c ?zq34_m ?zq34_d ?_ ?zq34_a ?zq34_b; (case zq34_a => rfl); (case zq34_b => rfl); (case zq34_N => k_asm); (case zq34_c => rfl); (case zq34_m => k_mem); (case zq34_d => k_asm); k_whole))) | ((with_reducible show wpAny _ _ (call (Value.type "tuple") _) _ _ _); with_reducible ((k_here; (with_reducible show wpAny _ _ (call (Value.type "tuple") [Value.ref _]) _ _ _); k_dflt (refine' tupOf_N ?zq35_F ?zq35_N ?zq35_a ?zq35_z ?_; (case zq35_F => k_asm); (case zq35_N => k_asm); (case zq35_a => k_mem); (case zq35_z => omega); k_whole); intro hq_z c7_z Fq_z Nq_z hne7_z))) | ((with_reducible show wpAny _ _ (newTuple _) _ _ _); with_reducible ((k_here; k_dflt (refine' tup_N ?zq36_F ?zq36_N ?zq36_z ?_; (case zq36_F => k_asm); (case zq36_N => k_asm); (case zq36_z => exact Nat.le_of_ble_eq_true rfl); k_whole); intro hq_z c7_z Fq_z Nq_z hne7_z))) | ((with_reducible show wpAny _ _ (call (Value.builtin "sum") _) _ _ _); with_reducible ((k_here; (with_reducible show wpAny _ _ (call (Value.builtin "sum") [Value.ref _]) _ _ _); (refine' sumL_N ?zq37_hh ?zq37_F ?zq37_N ?zq37_a ?zq37_I ?_; (case zq37_hh => rfl); (case zq37_F => k_asm); (case zq37_N => k_asm); (case zq37_a => k_mem); (case zq37_I => assumption); k_whole); intro hq_z tkq_z tq_z Fq_z Nq_z))) | ((with_reducible show wpAny _ _ (binaryOp Operator.Pow (Value.int _ _) (Value.int _ _)) _ _ _); with_reducible ((k_here; (refine pow2_N ?zq38_h0 ?zq38_h5 ?_); (case zq38_h0 => omega); (case zq38_h5 => omega)))) | ((with_reducible show wpAny _ _ (eval (Expr.ListComp _ _ _ _) _) _ _ _); with_reducible ((k_here; k_dflt (first   | (refine LCg.ListComp_U (F₀ := by k_asm) (by with_unfolding_all rfl) (by decide) (by rfl) (by decide) (by rfl) ?_)   | (refine LCt.ListComp_T (F₀ := by k_asm) (by with_unfolding_all rfl) (by decide) (by rfl) (by decide) (by rfl) ?_))))) | ((with_reducible show wpAny _ _ (call (Value.builtin "sorted") _) _ _ _); ((k_here; (with_reducible show wpAny _ _ (call (Value.builtin "sorted") [Value.ref _]) _ _ _); (refine' sorted_N ?zq40_hh ?zq40_F ?zq40_N ?zq40_a ?zq40_s0 ?zq40_M ?_; (case zq40_hh => rfl); (case zq40_F => k_asm); (case zq40_N => k_asm); (case zq40_a => assumption); (case zq40_s0 => ((intro p hp; repeat (first | exact hp | refine List.mem_cons_of_mem _ ?_)))); (case zq40_M => assumption); k_whole); intro hq_z c7_z vs7_z e7_z Fq_z Nq_z hI7_z hm7_z hne7_z))) | with_reducible ((k_here; (with_reducible show wpAny _ _ (subscriptTail _ _ (Value.ref _) (Value.int _ _)) _ _ _); (with_unfolding_all refine' itemK_N ?zq41_N ?zq41_V ?zq41_s0 ?zq41_lo ?zq41_hi ?zq41_sm ?_ ?zq41_hs; (case zq41_N => assumption); (case zq41_V => assumption); (case zq41_s0 => ((intro p hp; repeat (first | exact hp | refine List.mem_cons_of_mem _ ?_)))); (case zq41_lo => first | assumption | omega); (case zq41_hi => first | assumption | omega); (case zq41_sm => first | assumption | omega); (case zq41_hs => with_unfolding_all rfl); k_whole); intro b7_z x7_z y7_z n7_z hm7_z)) | with_reducible ((k_here; (with_reducible show wpAny _ _ (call (Value.builtin "len") [Value.ref _]) _ _ _); (refine' lenK_N ?zq42_N ?zq42_V ?zq42_s0 ?zq42_sm ?_; (case zq42_N => assumption); (case zq42_V => assumption); (case zq42_s0 => ((intro p hp; repeat (first | exact hp | refine List.mem_cons_of_mem _ ?_)))); (case zq42_sm => first | assumption | omega); k_whole))) | ((with_reducible show wpAny _ _ (call (Value.type "range") _) _ _ _); with_reducible ((k_here; first   | ((refine' range1_N ?zq43_F ?zq43_N ?_; (case zq43_F => assumption); (case zq43_N => assumption); k_whole); intro hq_z r7_z t71_z t73_z tk7_z hR7_z Fq_z Nq_z)   | ((refine' range2_N ?zq43_F ?zq43_N ?_; (case zq43_F => assumption); (case zq43_N => assumption); k_whole); intro hq_z r7_z t73_z tk7_z hR7_z Fq_z Nq_z)))) | with_reducible ((k_here; (with_reducible show wpAny _ _ (call (Value.builtin "len") [Value.ref _]) _ _ _); (refine' len_N ?zq44_N ?zq44_V ?zq44_s0 ?zq44_sm ?_; (case zq44_N => assumption); (case zq44_V => assumption); (case zq44_s0 => ((intro p hp; repeat (first | exact hp | refine List.mem_cons_of_mem _ ?_)))); (case zq44_sm => first | assumption | omega); k_whole))) | with_reducible ((k_here; (with_reducible show wpAny _ _ (subscriptTail _ _ (Value.ref _) (Value.int _ _)) _ _ _); (with_unfolding_all refine' item_N ?zq45_N ?zq45_V ?zq45_s0 ?zq45_lo ?zq45_hi ?zq45_sm ?_ ?zq45_hs; (case zq45_N => assumption); (case zq45_V => assumption); (case zq45_s0 => ((intro p hp; repeat (first | exact hp | refine List.mem_cons_of_mem _ ?_)))); (case zq45_lo => first | assumption | omega); (case zq45_hi => first | assumption | omega); (case zq45_sm => first | assumption | omega); (case zq45_hs => with_unfolding_all rfl); k_whole); intro a7_z o7_z hm7_z hI7_z)) | walk1)))))
      exact LCg.CompEnd.intro (by assumption) (by assumption) _ (fun p hp => hp) off3 (.inr ⟨_, by k_mem, rfl, _, rfl⟩) ⟨rfl, pows_step hk2 hG⟩
    case fin2 =>
      intro zs hG D2 h2 tk2 F3 N3 o3
      rw [List.size_toArray, List.take_of_length_le (by rw [intsM, List.length_map]; omega)] at hG
      (repeat' ((first | (k_unfold; (try dsimp only)) | ((fail_if_success (with_reducible show wpAny _ _ (pyIter _) _ _ _)); (fail_if_success (with_reducible show LCg.CompSrc _ _ _ _ _ _ _ _ _ _ _ _ _ _)); (fail_if_success (with_reducible show LCt.CompSrcT _ _ _ _ _ _ _ _ _ _ _ _ _ _ _)); first | with_reducible ((k_here; (with_reducible show wpAny _ _ (eval (Expr.Name _ _) (compEnvC _ _ _ _)) _ _ _); k_dflt (refine' lcf_cell ?zq34_N ?zq34_c ?zq34_m ?zq34_d ?_ ?zq34_a ?zq34_b; (case zq34_a => rfl); (case zq34_b => rfl); (case zq34_N => k_asm); (case zq34_c => rfl); (case zq34_m => k_mem); (case zq34_d => k_asm); k_whole))) | ((with_reducible show wpAny _ _ (call (Value.type "tuple") _) _ _ _); with_reducible ((k_here; (with_reducible show wpAny _ _ (call (Value.type "tuple") [Value.ref _]) _ _ _); k_dflt (refine' tupOf_N ?zq35_F ?zq35_N ?zq35_a ?zq35_z ?_; (case zq35_F => k_asm); (case zq35_N => k_asm); (case zq35_a => k_mem); (case zq35_z => omega); k_whole); intro hq_z c7_z Fq_z Nq_z hne7_z))) | ((with_reducible show wpAny _ _ (newTuple _) _ _ _); with_reducible ((k_here; k_dflt (refine' tup_N ?zq36_F ?zq36_N ?zq36_z ?_; (case zq36_F => k_asm); (case zq36_N => k_asm); (case zq36_z => exact Nat.le_of_ble_eq_true rfl); k_whole); intro hq_z c7_z Fq_z Nq_z hne7_z))) | ((with_reducible show wpAny _ _ (call (Value.builtin "sum") _) _ _ _); with_reducible ((k_here; (with_reducible show wpAny _ _ (call (Value.builtin "sum") [Value.ref _]) _ _ _); (refine' sumL_N ?zq37_hh ?zq37_F ?zq37_N ?zq37_a ?zq37_I ?_; (case zq37_hh => rfl); (case zq37_F => k_asm); (case zq37_N => k_asm); (case zq37_a => k_mem); (case zq37_I => assumption); k_whole); intro hq_z tkq_z tq_z Fq_z Nq_z))) | ((with_reducible show wpAny _ _ (binaryOp Operator.Pow (Value.int _ _) (Value.int _ _)) _ _ _); with_reducible ((k_here; (refine pow2_N ?zq38_h0 ?zq38_h5 ?_); (case zq38_h0 => omega); (case zq38_h5 => omega)))) | ((with_reducible show wpAny _ _ (eval (Expr.ListComp _ _ _ _) _) _ _ _); with_reducible ((k_here; k_dflt (first   | (refine LCg.ListComp_U (F₀ := by k_asm) (by with_unfolding_all rfl) (by decide) (by rfl) (by decide) (by rfl) ?_)   | (refine LCt.ListComp_T (F₀ := by k_asm) (by with_unfolding_all rfl) (by decide) (by rfl) (by decide) (by rfl) ?_))))) | ((with_reducible show wpAny _ _ (call (Value.builtin "sorted") _) _ _ _); ((k_here; (with_reducible show wpAny _ _ (call (Value.builtin "sorted") [Value.ref _]) _ _ _); (refine' sorted_N ?zq40_hh ?zq40_F ?zq40_N ?zq40_a ?zq40_s0 ?zq40_M ?_; (case zq40_hh => rfl); (case zq40_F => k_asm); (case zq40_N => k_asm); (case zq40_a => assumption); (case zq40_s0 => ((intro p hp; repeat (first | exact hp | refine List.mem_cons_of_mem _ ?_)))); (case zq40_M => assumption); k_whole); intro hq_z c7_z vs7_z e7_z Fq_z Nq_z hI7_z hm7_z hne7_z))) | with_reducible ((k_here; (with_reducible show wpAny _ _ (subscriptTail _ _ (Value.ref _) (Value.int _ _)) _ _ _); (with_unfolding_all refine' itemK_N ?zq41_N ?zq41_V ?zq41_s0 ?zq41_lo ?zq41_hi ?zq41_sm ?_ ?zq41_hs; (case zq41_N => assumption); (case zq41_V => assumption); (case zq41_s0 => ((intro p hp; repeat (first | exact hp | refine List.mem_cons_of_mem _ ?_)))); (case zq41_lo => first | assumption | omega); (case zq41_hi => first | assumption | omega); (case zq41_sm => first | assumption | omega); (case zq41_hs => with_unfolding_all rfl); k_whole); intro b7_z x7_z y7_z n7_z hm7_z)) | with_reducible ((k_here; (with_reducible show wpAny _ _ (call (Value.builtin "len") [Value.ref _]) _ _ _); (refine' lenK_N ?zq42_N ?zq42_V ?zq42_s0 ?zq42_sm ?_; (case zq42_N => assumption); (case zq42_V => assumption); (case zq42_s0 => ((intro p hp; repeat (first | exact hp | refine List.mem_cons_of_mem _ ?_)))); (case zq42_sm => first | assumption | omega); k_whole))) | ((with_reducible show wpAny _ _ (call (Value.type "range") _) _ _ _); with_reducible ((k_here; first   | ((refine' range1_N ?zq43_F ?zq43_N ?_; (case zq43_F => assumption); (case zq43_N => assumption); k_whole); intro hq_z r7_z t71_z t73_z tk7_z hR7_z Fq_z Nq_z)   | ((refine' range2_N ?zq43_F ?zq43_N ?_; (case zq43_F => assumption); (case zq43_N => assumption); k_whole); intro hq_z r7_z t73_z tk7_z hR7_z Fq_z Nq_z)))) | with_reducible ((k_here; (with_reducible show wpAny _ _ (call (Value.builtin "len") [Value.ref _]) _ _ _); (refine' len_N ?zq44_N ?zq44_V ?zq44_s0 ?zq44_sm ?_; (case zq44_N => assumption); (case zq44_V => assumption); (case zq44_s0 => ((intro p hp; repeat (first | exact hp | refine List.mem_cons_of_mem _ ?_)))); (case zq44_sm => first | assumption | omega); k_whole))) | with_reducible ((k_here; (with_reducible show wpAny _ _ (subscriptTail _ _ (Value.ref _) (Value.int _ _)) _ _ _); (with_unfolding_all refine' item_N ?zq45_N ?zq45_V ?zq45_s0 ?zq45_lo ?zq45_hi ?zq45_sm ?_ ?zq45_hs; (case zq45_N => assumption); (case zq45_V => assumption); (case zq45_s0 => ((intro p hp; repeat (first | exact hp | refine List.mem_cons_of_mem _ ?_)))); (case zq45_lo => first | assumption | omega); (case zq45_hi => first | assumption | omega); (case zq45_sm => first | assumption | omega); (case zq45_hs => with_unfolding_all rfl); k_whole); intro a7_z o7_z hm7_z hI7_z)) | walk1 | (dsimp only; first | with_reducible ((k_here; (with_reducible show wpAny _ _ (eval (Expr.Name _ _) (compEnvC _ _ _ _)) _ _ _); k_dflt (refine' lcf_cell ?zq34_N ?zq34_c ?zq34_m ?zq34_d ?_ ?zq34_a ?zq34_b; (case zq34_a => rfl); (case zq34_b => rfl); (case zq34_N => k_asm); (case zq34_c => rfl); (case zq34_m => k_mem); (case zq34_d => k_asm); k_whole))) | ((with_reducible show wpAny _ _ (call (Value.type "tuple") _) _ _ _); with_reducible ((k_here; (with_reducible show wpAny _ _ (call (Value.type "tuple") [Value.ref _]) _ _ _); k_dflt (refine' tupOf_N ?zq35_F ?zq35_N ?zq35_a ?zq35_z ?_; (case zq35_F => k_asm); (case zq35_N => k_asm); (case zq35_a => k_mem); (case zq35_z => omega); k_whole); intro hq_z c7_z Fq_z Nq_z hne7_z))) | ((with_reducible show wpAny _ _ (newTuple _) _ _ _); with_reducible ((k_here; k_dflt (refine' tup_N ?zq36_F ?zq36_N ?zq36_z ?_; (case zq36_F => k_asm); (case zq36_N => k_asm); (case zq36_z => exact Nat.le_of_ble_eq_true rfl); k_whole); intro hq_z c7_z Fq_z Nq_z hne7_z))) | ((with_reducible show wpAny _ _ (call (Value.builtin "sum") _) _ _ _); with_reducible ((k_here; (with_reducible show wpAny _ _ (call (Value.builtin "sum") [Value.ref _]) _ _ _); (refine' sumL_N ?zq37_hh ?zq37_F ?zq37_N ?zq37_a ?zq37_I ?_; (case zq37_hh => rfl); (case zq37_F => k_asm); (case zq37_N => k_asm); (case zq37_a => k_mem); (case zq37_I => assumption); k_whole); intro hq_z tkq_z tq_z Fq_z Nq_z))) | ((with_reducible show wpAny _ _ (binaryOp Operator.Pow (Value.int _ _) (Value.int _ _)) _ _ _); with_reducible ((k_here; (refine pow2_N ?zq38_h0 ?zq38_h5 ?_); (case zq38_h0 => omega); (case zq38_h5 => omega)))) | ((with_reducible show wpAny _ _ (eval (Expr.ListComp _ _ _ _) _) _ _ _); with_reducible ((k_here; k_dflt (first   | (refine LCg.ListComp_U (F₀ := by k_asm) (by with_unfolding_all rfl) (by decide) (by rfl) (by decide) (by rfl) ?_)   | (refine LCt.ListComp_T (F₀ := by k_asm) (by with_unfolding_all rfl) (by decide) (by rfl) (by decide) (by rfl) ?_))))) | ((with_reducible show wpAny _ _ (call (Value.builtin "sorted") _) _ _ _); ((k_here; (with_reducible show wpAny _ _ (call (Value.builtin "sorted") [Value.ref _]) _ _ _); (refine' sorted_N ?zq40_hh ?zq40_F ?zq40_N ?zq40_a ?zq40_s0 ?zq40_M ?_; (case zq40_hh => rfl); (case zq40_F => k_asm); (case zq40_N => k_asm); (case zq40_a => assumption); (case zq40_s0 => ((intro p hp; repeat (first | exact hp | refine List.mem_cons_of_mem _ ?_)))); (case zq40_M => assumption); k_whole); intro hq_z c7_z vs7_z e7_z Fq_z Nq_z hI7_z hm7_z hne7_z))) | with_reducible ((k_here; (with_reducible show wpAny _ _ (subscriptTail _ _ (Value.ref _) (Value.int _ _)) _ _ _); (with_unfolding_all refine' itemK_N ?zq41_N ?zq41_V ?zq41_s0 ?zq41_lo ?zq41_hi ?zq41_sm ?_ ?zq41_hs; (case zq41_N => assumption); (case zq41_V => assumption); (case zq41_s0 => ((intro p hp; repeat (first | exact hp | refine List.mem_cons_of_mem _ ?_)))); (case zq41_lo => first | assumption | omega); (case zq41_hi => first | assumption | omega); (case zq41_sm => first | assumption | omega); (case zq41_hs => with_unfolding_all rfl); k_whole); intro b7_z x7_z y7_z n7_z hm7_z)) | with_reducible ((k_here; (with_reducible show wpAny _ _ (call (Value.builtin "len") [Value.ref _]) _ _ _); (refine' lenK_N ?zq42_N ?zq42_V ?zq42_s0 ?zq42_sm ?_; (case zq42_N => assumption); (case zq42_V => assumption); (case zq42_s0 => ((intro p hp; repeat (first | exact hp | refine List.mem_cons_of_mem _ ?_)))); (case zq42_sm => first | assumption | omega); k_whole))) | ((with_reducible show wpAny _ _ (call (Value.type "range") _) _ _ _); with_reducible ((k_here; first   | ((refine' range1_N ?zq43_F ?zq43_N ?_; (case zq43_F => assumption); (case zq43_N => assumption); k_whole); intro hq_z r7_z t71_z t73_z tk7_z hR7_z Fq_z Nq_z)   | ((refine' range2_N ?zq43_F ?zq43_N ?_; (case zq43_F => assumption); (case zq43_N => assumption); k_whole); intro hq_z r7_z t73_z tk7_z hR7_z Fq_z Nq_z)))) | with_reducible ((k_here; (with_reducible show wpAny _ _ (call (Value.builtin "len") [Value.ref _]) _ _ _); (refine' len_N ?zq44_N ?zq44_V ?zq44_s0 ?zq44_sm ?_; (case zq44_N => assumption); (case zq44_V => assumption); (case zq44_s0 => ((intro p hp; repeat (first | exact hp | refine List.mem_cons_of_mem _ ?_)))); (case zq44_sm => first | assumption | omega); k_whole))) | with_reducible ((k_here; (with_reducible show wpAny _ _ (subscriptTail _ _ (Value.ref _) (Value.int _ _)) _ _ _); (with_unfolding_all refine' item_N ?zq45_N ?zq45_V ?zq45_s0 ?zq45_lo ?zq45_hi ?zq45_sm ?_ ?zq45_hs; (case zq45_N => assumption); (case zq45_V => assumption); (case zq45_s0 => ((intro p hp; repeat (first | exact hp | refine List.mem_cons_of_mem _ ?_)))); (case zq45_lo => first | assumption | omega); (case zq45_hi => first | assumption | omega); (case zq45_sm => first | assumption | omega); (case zq45_hs => with_unfolding_all rfl); k_whole); intro a7_z o7_z hm7_z hI7_z)) | walk1)))))
      rename New _ _ => hne2
      rename Addr => c9
      refine LCg.CompEnd.intro (by assumption) (by assumption) ((L1 + 1, o1) :: (((c9, _) :: tl) ++ news)) (by (((repeat (refine List.forall_mem_cons.mpr ⟨by k_mem, ?_⟩)); first | exact List.forall_mem_nil _ | ((intro p hp; repeat (first | exact hp | refine List.mem_cons_of_mem _ ?_)))))) ⟨off.1, off3_of hne2 (by k_mem) (by k_mem) (by k_mem) off.2⟩ trivial ⟨_, rfl, hA.cons fun q hq => hne2 q (by simp [hq]), by simp [hl], fun j x e => ?_⟩
      rw [List.getElem?_append] at e
      split at e
      · exact (hP j x e).mono fun q hq => List.mem_cons_of_mem _ hq
      · rename_i hj
        have e2 : j = i := by have := List.getElem?_eq_some_iff.mp e; simp at this; omega
        subst e2
        simp [hl] at e
        subst e
        rw [mask_sum hm32, show (0 + (j : Int)) = j by omega]
        exact ⟨_, _, _, _, rfl, List.mem_cons_self⟩
  case fin =>
    rintro ys led ⟨tl, rfl, hA, hl, hP⟩
    intro D2 h2 tk2 F3 N3 o3
    (repeat' ((first | (k_unfold; (try dsimp only)) | ((fail_if_success (with_reducible show wpAny _ _ (pyIter _) _ _ _)); (fail_if_success (with_reducible show LCg.CompSrc _ _ _ _ _ _ _ _ _ _ _ _ _ _)); (fail_if_success (with_reducible show LCt.CompSrcT _ _ _ _ _ _ _ _ _ _ _ _ _ _ _)); first | with_reducible ((k_here; (with_reducible show wpAny _ _ (eval (Expr.Name _ _) (compEnvC _ _ _ _)) _ _ _); k_dflt (refine' lcf_cell ?zq34_N ?zq34_c ?zq34_m ?zq34_d ?_ ?zq34_a ?zq34_b; (case zq34_a => rfl); (case zq34_b => rfl); (case zq34_N => k_asm); (case zq34_c => rfl); (case zq34_m => k_mem); (case zq34_d => k_asm); k_whole))) | ((with_reducible show wpAny _ _ (call (Value.type "tuple") _) _ _ _); with_reducible ((k_here; (with_reducible show wpAny _ _ (call (Value.type "tuple") [Value.ref _]) _ _ _); k_dflt (refine' tupOf_N ?zq35_F ?zq35_N ?zq35_a ?zq35_z ?_; (case zq35_F => k_asm); (case zq35_N => k_asm); (case zq35_a => k_mem); (case zq35_z => omega); k_whole); intro hq_z c7_z Fq_z Nq_z hne7_z))) | ((with_reducible show wpAny _ _ (newTuple _) _ _ _); with_reducible ((k_here; k_dflt (refine' tup_N ?zq36_F ?zq36_N ?zq36_z ?_; (case zq36_F => k_asm); (case zq36_N => k_asm); (case zq36_z => exact Nat.le_of_ble_eq_true rfl); k_whole); intro hq_z c7_z Fq_z Nq_z hne7_z))) | ((with_reducible show wpAny _ _ (call (Value.builtin "sum") _) _ _ _); with_reducible ((k_here; (with_reducible show wpAny _ _ (call (Value.builtin "sum") [Value.ref _]) _ _ _); (refine' sumL_N ?zq37_hh ?zq37_F ?zq37_N ?zq37_a ?zq37_I ?_; (case zq37_hh => rfl); (case zq37_F => k_asm); (case zq37_N => k_asm); (case zq37_a => k_mem); (case zq37_I => assumption); k_whole); intro hq_z tkq_z tq_z Fq_z Nq_z))) | ((with_reducible show wpAny _ _ (binaryOp Operator.Pow (Value.int _ _) (Value.int _ _)) _ _ _); with_reducible ((k_here; (refine pow2_N ?zq38_h0 ?zq38_h5 ?_); (case zq38_h0 => omega); (case zq38_h5 => omega)))) | ((with_reducible show wpAny _ _ (eval (Expr.ListComp _ _ _ _) _) _ _ _); with_reducible ((k_here; k_dflt (first   | (refine LCg.ListComp_U (F₀ := by k_asm) (by with_unfolding_all rfl) (by decide) (by rfl) (by decide) (by rfl) ?_)   | (refine LCt.ListComp_T (F₀ := by k_asm) (by with_unfolding_all rfl) (by decide) (by rfl) (by decide) (by rfl) ?_))))) | ((with_reducible show wpAny _ _ (call (Value.builtin "sorted") _) _ _ _); ((k_here; (with_reducible show wpAny _ _ (call (Value.builtin "sorted") [Value.ref _]) _ _ _); (refine' sorted_N ?zq40_hh ?zq40_F ?zq40_N ?zq40_a ?zq40_s0 ?zq40_M ?_; (case zq40_hh => rfl); (case zq40_F => k_asm); (case zq40_N => k_asm); (case zq40_a => assumption); (case zq40_s0 => ((intro p hp; repeat (first | exact hp | refine List.mem_cons_of_mem _ ?_)))); (case zq40_M => assumption); k_whole); intro hq_z c7_z vs7_z e7_z Fq_z Nq_z hI7_z hm7_z hne7_z))) | with_reducible ((k_here; (with_reducible show wpAny _ _ (subscriptTail _ _ (Value.ref _) (Value.int _ _)) _ _ _); (with_unfolding_all refine' itemK_N ?zq41_N ?zq41_V ?zq41_s0 ?zq41_lo ?zq41_hi ?zq41_sm ?_ ?zq41_hs; (case zq41_N => assumption); (case zq41_V => assumption); (case zq41_s0 => ((intro p hp; repeat (first | exact hp | refine List.mem_cons_of_mem _ ?_)))); (case zq41_lo => first | assumption | omega); (case zq41_hi => first | assumption | omega); (case zq41_sm => first | assumption | omega); (case zq41_hs => with_unfolding_all rfl); k_whole); intro b7_z x7_z y7_z n7_z hm7_z)) | with_reducible ((k_here; (with_reducible show wpAny _ _ (call (Value.builtin "len") [Value.ref _]) _ _ _); (refine' lenK_N ?zq42_N ?zq42_V ?zq42_s0 ?zq42_sm ?_; (case zq42_N => assumption); (case zq42_V => assumption); (case zq42_s0 => ((intro p hp; repeat (first | exact hp | refine List.mem_cons_of_mem _ ?_)))); (case zq42_sm => first | assumption | omega); k_whole))) | ((with_reducible show wpAny _ _ (call (Value.type "range") _) _ _ _); with_reducible ((k_here; first   | ((refine' range1_N ?zq43_F ?zq43_N ?_; (case zq43_F => assumption); (case zq43_N => assumption); k_whole); intro hq_z r7_z t71_z t73_z tk7_z hR7_z Fq_z Nq_z)   | ((refine' range2_N ?zq43_F ?zq43_N ?_; (case zq43_F => assumption); (case zq43_N => assumption); k_whole); intro hq_z r7_z t73_z tk7_z hR7_z Fq_z Nq_z)))) | with_reducible ((k_here; (with_reducible show wpAny _ _ (call (Value.builtin "len") [Value.ref _]) _ _ _); (refine' len_N ?zq44_N ?zq44_V ?zq44_s0 ?zq44_sm ?_; (case zq44_N => assumption); (case zq44_V => assumption); (case zq44_s0 => ((intro p hp; repeat (first | exact hp | refine List.mem_cons_of_mem _ ?_)))); (case zq44_sm => first | assumption | omega); k_whole))) | with_reducible ((k_here; (with_reducible show wpAny _ _ (subscriptTail _ _ (Value.ref _) (Value.int _ _)) _ _ _); (with_unfolding_all refine' item_N ?zq45_N ?zq45_V ?zq45_s0 ?zq45_lo ?zq45_hi ?zq45_sm ?_ ?zq45_hs; (case zq45_N => assumption); (case zq45_V => assumption); (case zq45_s0 => ((intro p hp; repeat (first | exact hp | refine List.mem_cons_of_mem _ ?_)))); (case zq45_lo => first | assumption | omega); (case zq45_hi => first | assumption | omega); (case zq45_sm => first | assumption | omega); (case zq45_hs => with_unfolding_all rfl); k_whole); intro a7_z o7_z hm7_z hI7_z)) | walk1 | (dsimp only; first | with_reducible ((k_here; (with_reducible show wpAny _ _ (eval (Expr.Name _ _) (compEnvC _ _ _ _)) _ _ _); k_dflt (refine' lcf_cell ?zq34_N ?zq34_c ?zq34_m ?zq34_d ?_ ?zq34_a ?zq34_b; (case zq34_a => rfl); (case zq34_b => rfl); (case zq34_N => k_asm); (case zq34_c => rfl); (case zq34_m => k_mem); (case zq34_d => k_asm); k_whole))) | ((with_reducible show wpAny _ _ (call (Value.type "tuple") _) _ _ _); with_reducible ((k_here; (with_reducible show wpAny _ _ (call (Value.type "tuple") [Value.ref _]) _ _ _); k_dflt (refine' tupOf_N ?zq35_F ?zq35_N ?zq35_a ?zq35_z ?_; (case zq35_F => k_asm); (case zq35_N => k_asm); (case zq35_a => k_mem); (case zq35_z => omega); k_whole); intro hq_z c7_z Fq_z Nq_z hne7_z))) | ((with_reducible show wpAny _ _ (newTuple _) _ _ _); with_reducible ((k_here; k_dflt (refine' tup_N ?zq36_F ?zq36_N ?zq36_z ?_; (case zq36_F => k_asm); (case zq36_N => k_asm); (case zq36_z => exact Nat.le_of_ble_eq_true rfl); k_whole); intro hq_z c7_z Fq_z Nq_z hne7_z))) | ((with_reducible show wpAny _ _ (call (Value.builtin "sum") _) _ _ _); with_reducible ((k_here; (with_reducible show wpAny _ _ (call (Value.builtin "sum") [Value.ref _]) _ _ _); (refine' sumL_N ?zq37_hh ?zq37_F ?zq37_N ?zq37_a ?zq37_I ?_; (case zq37_hh => rfl); (case zq37_F => k_asm); (case zq37_N => k_asm); (case zq37_a => k_mem); (case zq37_I => assumption); k_whole); intro hq_z tkq_z tq_z Fq_z Nq_z))) | ((with_reducible show wpAny _ _ (binaryOp Operator.Pow (Value.int _ _) (Value.int _ _)) _ _ _); with_reducible ((k_here; (refine pow2_N ?zq38_h0 ?zq38_h5 ?_); (case zq38_h0 => omega); (case zq38_h5 => omega)))) | ((with_reducible show wpAny _ _ (eval (Expr.ListComp _ _ _ _) _) _ _ _); with_reducible ((k_here; k_dflt (first   | (refine LCg.ListComp_U (F₀ := by k_asm) (by with_unfolding_all rfl) (by decide) (by rfl) (by decide) (by rfl) ?_)   | (refine LCt.ListComp_T (F₀ := by k_asm) (by with_unfolding_all rfl) (by decide) (by rfl) (by decide) (by rfl) ?_))))) | ((with_reducible show wpAny _ _ (call (Value.builtin "sorted") _) _ _ _); ((k_here; (with_reducible show wpAny _ _ (call (Value.builtin "sorted") [Value.ref _]) _ _ _); (refine' sorted_N ?zq40_hh ?zq40_F ?zq40_N ?zq40_a ?zq40_s0 ?zq40_M ?_; (case zq40_hh => rfl); (case zq40_F => k_asm); (case zq40_N => k_asm); (case zq40_a => assumption); (case zq40_s0 => ((intro p hp; repeat (first | exact hp | refine List.mem_cons_of_mem _ ?_)))); (case zq40_M => assumption); k_whole); intro hq_z c7_z vs7_z e7_z Fq_z Nq_z hI7_z hm7_z hne7_z))) | with_reducible ((k_here; (with_reducible show wpAny _ _ (subscriptTail _ _ (Value.ref _) (Value.int _ _)) _ _ _); (with_unfolding_all refine' itemK_N ?zq41_N ?zq41_V ?zq41_s0 ?zq41_lo ?zq41_hi ?zq41_sm ?_ ?zq41_hs; (case zq41_N => assumption); (case zq41_V => assumption); (case zq41_s0 => ((intro p hp; repeat (first | exact hp | refine List.mem_cons_of_mem _ ?_)))); (case zq41_lo => first | assumption | omega); (case zq41_hi => first | assumption | omega); (case zq41_sm => first | assumption | omega); (case zq41_hs => with_unfolding_all rfl); k_whole); intro b7_z x7_z y7_z n7_z hm7_z)) | with_reducible ((k_here; (with_reducible show wpAny _ _ (call (Value.builtin "len") [Value.ref _]) _ _ _); (refine' lenK_N ?zq42_N ?zq42_V ?zq42_s0 ?zq42_sm ?_; (case zq42_N => assumption); (case zq42_V => assumption); (case zq42_s0 => ((intro p hp; repeat (first | exact hp | refine List.mem_cons_of_mem _ ?_)))); (case zq42_sm => first | assumption | omega); k_whole))) | ((with_reducible show wpAny _ _ (call (Value.type "range") _) _ _ _); with_reducible ((k_here; first   | ((refine' range1_N ?zq43_F ?zq43_N ?_; (case zq43_F => assumption); (case zq43_N => assumption); k_whole); intro hq_z r7_z t71_z t73_z tk7_z hR7_z Fq_z Nq_z)   | ((refine' range2_N ?zq43_F ?zq43_N ?_; (case zq43_F => assumption); (case zq43_N => assumption); k_whole); intro hq_z r7_z t73_z tk7_z hR7_z Fq_z Nq_z)))) | with_reducible ((k_here; (with_reducible show wpAny _ _ (call (Value.builtin "len") [Value.ref _]) _ _ _); (refine' len_N ?zq44_N ?zq44_V ?zq44_s0 ?zq44_sm ?_; (case zq44_N => assumption); (case zq44_V => assumption); (case zq44_s0 => ((intro p hp; repeat (first | exact hp | refine List.mem_cons_of_mem _ ?_)))); (case zq44_sm => first | assumption | omega); k_whole))) | with_reducible ((k_here; (with_reducible show wpAny _ _ (subscriptTail _ _ (Value.ref _) (Value.int _ _)) _ _ _); (with_unfolding_all refine' item_N ?zq45_N ?zq45_V ?zq45_s0 ?zq45_lo ?zq45_hi ?zq45_sm ?_ ?zq45_hs; (case zq45_N => assumption); (case zq45_V => assumption); (case zq45_s0 => ((intro p hp; repeat (first | exact hp | refine List.mem_cons_of_mem _ ?_)))); (case zq45_lo => first | assumption | omega); (case zq45_hi => first | assumption | omega); (case zq45_sm => first | assumption | omega); (case zq45_hs => with_unfolding_all rfl); k_whole); intro a7_z o7_z hm7_z hI7_z)) | walk1)))))
    rename New _ _ => hne2
    rename Addr => c9
    refine ret ((c9, _) :: tl) _ _ _ (by assumption) (News.sub (by assumption) (by (((repeat (refine List.forall_mem_cons.mpr ⟨by k_mem, ?_⟩)); first | exact List.forall_mem_nil _ | ((intro p hp; repeat (first | exact hp | refine List.mem_cons_of_mem _ ?_))))))) (hA.cons fun q hq => hne2 q (by simp [hq])) ⟨c9, ys.toArray, 0, rfl, List.mem_cons_self, by simp [kerOf, hl], fun i x p e1 e2 => ?_⟩
    have e3 := hP i x (by simpa using e1)
    have e4 : i < ms.length := by have := List.getElem?_eq_some_iff.mp e2; simpa [kerOf] using this.1
    have e5 : p = (10 + 3 * (i : Int), ms.getD i 0) := by
      rw [kerOf, List.getElem?_map, List.getElem?_range e4] at e2
      exact (Option.some.inj e2).symm
    subst e5
    exact e3.mono fun q hq => List.mem_cons_of_mem _ hq
end
end
end Mine
end
section
open PySem PySem.W PyProof.Rows
namespace Mine
structure TabOk (ρ : Nat → Nat) (T : DT) : Prop where
  goes : ∀ q ∈ T.goes, goesB (q.1.map (mval ρ)) (q.2.1.map (mval ρ)) = q.2.2
  sh : ∀ q ∈ T.sh, sharesB (q.1.map (mval ρ)) = q.2
theorem look2_ok {ρ : Nat → Nat} {a b : List (List Nat)} {d : Bool} : ∀ {t : List (List (List Nat) × List (List Nat) × Bool)}, look2 a b t = some d → (∀ q ∈ t, goesB (q.1.map (mval ρ)) (q.2.1.map (mval ρ)) = q.2.2) → goesB (a.map (mval ρ)) (b.map (mval ρ)) = d
  | q :: r, h, H => by
    replace h : (bif meqs a q.1 && meqs b q.2.1 then some q.2.2 else look2 a b r) = some d := h
    cases e : (meqs a q.1 && meqs b q.2.1) with
    | true => rw [e] at h; cases h; rw [meqs_eq (andB e).1, meqs_eq (andB e).2]; exact H q List.mem_cons_self
    | false => rw [e] at h; exact look2_ok h fun q hq => H q (List.mem_cons_of_mem _ hq)
theorem look1_ok {ρ : Nat → Nat} {a : List (List Nat)} {d : Bool} : ∀ {t : List (List (List Nat) × Bool)}, look1 a t = some d → (∀ q ∈ t, sharesB (q.1.map (mval ρ)) = q.2) → sharesB (a.map (mval ρ)) = d
  | q :: r, h, H => by
    replace h : (bif meqs a q.1 then some q.2 else look1 a r) = some d := h
    cases e : meqs a q.1 with
    | true => rw [e] at h; cases h; rw [meqs_eq e]; exact H q List.mem_cons_self
    | false => rw [e] at h; exact look1_ok h fun q hq => H q (List.mem_cons_of_mem _ hq)
theorem all2_of {α β : Type} {R : α → β → Prop} : ∀ {l : List α} {m : List β}, l.length = m.length → (∀ (i : Nat) a b, l[i]? = some a → m[i]? = some b → R a b) → All2 R l m
  | [], [], _, _ => trivial
  | a :: l, b :: m, h, H => ⟨H 0 a b rfl rfl, all2_of (Nat.succ.inj h) fun i a b h1 h2 => H (i + 1) a b (by rw [List.getElem?_cons_succ]; exact h1) (by rw [List.getElem?_cons_succ]; exact h2)⟩
theorem kerS_at : ∀ {ms : List (List Nat)} {k : Nat}, (kerS k ms).length = ms.length ∧ ∀ (i : Nat) a, (kerS k ms)[i]? = some a → ∃ e, ms[i]? = some e ∧ a = .tup [.int (10 + 3 * ((k + i : Nat) : Int)), .msk e]
  | [], _ => ⟨rfl, fun i a h => by rw [show kerS _ [] = [] from rfl, List.getElem?_nil] at h; cases h⟩
  | e :: r, k => by
    obtain ⟨i1, i2⟩ := kerS_at (ms := r) (k := k + 1)
    refine ⟨congrArg (· + 1) i1, fun i a h => ?_⟩
    cases i with
    | zero => cases h; exact ⟨e, rfl, rfl⟩
    | succ i => rw [show k + (i + 1) = k + 1 + i by omega]; exact i2 i a h
section
variable {w : World} {ρ : Nat → Nat} {c : Cx} {as : AS} {σ : SS} {s : Shared} {m : Str → Option Value} {kn : List (Addr × Obj)}
theorem sets_at {prog : Program} {v : SV} {x : Value} {ms : List (List Nat)} (h : setsS v σ = some ms) (hx : IsV w ρ as v x) (R : Rep prog w ρ c s.heap σ as m kn) : SetsAt (byT w) (led c as kn) x (ms.map (mval ρ)) := by
  (have hz9 := bnd_eq h; clear h; obtain ⟨q, h1, h⟩ := hz9)
  obtain ⟨a, xs, n, _, _, _, rfl, f2, f3, _⟩ := list_eq h1 hx R
  have key := all_of (S := fun x e => SetAt (byT w) (led c as kn) x (mval ρ e)) (fun {v e x} h i => by
    cases asSet_eq h
    obtain ⟨a, o, rfl, g1, g2⟩ := i
    exact ⟨a, o, rfl, mem_im g1, g2⟩) h f3
  refine ⟨a, xs.toArray, n, rfl, mem_kn f2, by rw [List.length_map, List.size_toArray]; exact key.len, fun i y z h1 h2 => ?_⟩
  rw [List.getElem?_map, Option.map_eq_some_iff] at h2
  obtain ⟨e, h3, rfl⟩ := h2
  obtain ⟨y', e1, e2⟩ := key.nthR h3
  rw [nth_eq] at e1
  rw [List.getElem?_toArray, e1] at h1
  cases h1; exact e2
theorem ker_is {tl : List (Addr × Obj)} {r : Value} {ms : List (List Nat)} (h : KerAt tl r (kerOf (ms.map (mval ρ)))) : IsV w ρ (as.fix tl) (.tup (kerS 0 ms)) r := by
  obtain ⟨a, ⟨xs⟩, n, rfl, h1, h2, h3⟩ := h
  refine ⟨a, xs, n, rfl, List.mem_append_left _ h1, all_isVs (all2_of ?_ fun i u x k1 k2 => ?_)⟩
  · have h2 : xs.length = _ := h2
    rw [kerS_at.1, h2, kerOf, List.length_map, List.length_range, List.length_map]
  · obtain ⟨e, e1, rfl⟩ := kerS_at.2 i u k1
    have hi : i < ms.length := (List.getElem?_eq_some_iff.mp e1).1
    have e2 : (kerOf (ms.map (mval ρ)))[i]? = some (10 + 3 * (i : Int), mval ρ e) := by
      rw [kerOf, List.getElem?_map, List.getElem?_range (by rw [List.length_map]; exact hi), Option.map_some, List.getD_eq_getElem?_getD, List.getElem?_map, e1]; rfl
    obtain ⟨b, t1, t2, n2, rfl, h4⟩ := h3 i x _ (by rw [List.getElem?_toArray]; exact k2) e2
    exact ⟨b, _, n2, rfl, List.mem_append_left _ h4, ⟨t1, by rw [Nat.zero_add]⟩, ⟨t2, rfl⟩, trivial⟩
theorem valK_snd (ps : List (Int × List Nat)) : (valK ρ ps).map (·.2) = (ps.map (·.2)).map (mval ρ) := by rw [valK, List.map_map, List.map_map]; rfl
theorem prS_ok {T : DT} (HT : TabOk ρ T) {f : Addr} {vs : List SV} {σ' : SS} {v : SV} (h : prS T f vs σ = some (v, σ')) : (f = 321 ∨ f = 316 ∨ f = 127 ∨ f = 309) ∧ ∀ {c : Cx} {d : Nat} {as : AS} {xs : List Value}, CxOk (KH w.params) VH loose c d → 8 ≤ d → All2 (IsV w ρ as) vs xs →
    Tri PySem.Challenge.rw_pq0572_01.row.prog w ρ c as σ (call (.ref f) xs) σ' fun as' x => IsV w ρ as' v x := by
  have cx : ∀ {c : Cx} {d : Nat}, CxOk (KH w.params) VH loose c d → 8 ≤ d → ∃ (dp un : Nat) (gd : Option (List Code)) (cn : Str) (cs : Scope) (a : Addr) (ccd : Value) (cl : List (Str × Addr)) (outer : List Env) (A₀ : Around) (base : Heap) (mean : ExcName → Option Value) (mg mb : Str → Option Value),
      c.A = ktrTop dp un gd cn cs c.L a ccd cl outer ∧ cs.kind = .function ∧ Below A₀ base outer c.h₀ ∧ Top VH loose mean mg mb c.h₀ ∧ dp + 10 < recursionLimit ∧ un + 80 < cLine := by
    intro c d C hd
    obtain ⟨A₀, base, outer, mean, mg, mb, B, T, hfr⟩ := C.ex
    obtain ⟨cn, cs, a, ccd, cl, hfe, hk⟩ := C.fe
    refine ⟨c.A.depth, c.A.units, c.A.guards, cn, cs, a, ccd, cl, outer, A₀, base, mean, mg, mb, ?_, hk, B, T, by have := C.hd; omega, by have := C.hu; omega⟩
    have hh := C.hh
    obtain ⟨A, h₀, L, fe, rest⟩ := c
    obtain ⟨hdl, dp, fr, gd, un⟩ := A
    have hh : hdl = none := hh
    have hfe : fe = envX cn cs L a ccd cl := hfe
    have hfr : fr = some (fe :: outer) := hfr
    rw [hh, hfr, hfe]
  match vs, h with
  | [], h => cases h
  | _ :: _ :: _ :: _, h => cases h
  | [x], h =>
    replace h : (bif Nat.beq f 321 then bnd (setsS x σ) fun ms => chk (Nat.ble ms.length 8) (some (SV.tup (kerS 0 ms), σ)) else bif Nat.beq f 316 then bnd (setsS x σ) fun ms => chk (Nat.ble ms.length 8) (bnd (look1 ms T.sh) fun d => some (.bool d, σ)) else none) = some (v, σ') := h
    cases e : Nat.beq f 321 with
    | true =>
      rw [e, cond_true] at h
      (have hz9 := bnd_eq h; clear h; obtain ⟨ms, h1, h⟩ := hz9)
      (have hz9 := chk_eq h; clear h; obtain ⟨h2, h⟩ := hz9)
      cases h
      cases Nat.eq_of_beq_eq_true e
      refine ⟨.inl rfl, fun {c d as xs} C hd hx s m kn Q R ret => ?_⟩
      obtain ⟨dp, un, gd, cn, cs, a, ccd, cl, outer, A₀, base, mean, mg, mb, hA, hk, B, T', k1, k2⟩ := cx C hd
      match xs, hx with
      | [y], ⟨hy, _⟩ =>
      rw [hA]
      exact kernel_spec C.X B R.F R.N T' hk k1 k2 (sets_at h1 hy R) (by rw [List.length_map]; exact Nat.le_of_ble_eq_true h2) fun tl h' tk' r F' N' ap hK => ret h' tk' (as.fix tl) kn _ (Sub.fix _ _) (R.grow F' N' ap) (ker_is hK)
    | false =>
      rw [e, cond_false] at h
      cases e : Nat.beq f 316 with
      | true =>
        rw [e, cond_true] at h
        (have hz9 := bnd_eq h; clear h; obtain ⟨ms, h1, h⟩ := hz9)
        (have hz9 := chk_eq h; clear h; obtain ⟨h2, h⟩ := hz9)
        (have hz9 := bnd_eq h; clear h; obtain ⟨b, h3, h⟩ := hz9)
        cases h
        cases Nat.eq_of_beq_eq_true e
        refine ⟨.inr (.inl rfl), fun {c d as xs} C hd hx s m kn Q R ret => ?_⟩
        obtain ⟨dp, un, gd, cn, cs, a, ccd, cl, outer, A₀, base, mean, mg, mb, hA, hk, B, T', k1, k2⟩ := cx C hd
        match xs, hx with
        | [y], ⟨hy, _⟩ =>
        rw [hA]
        exact shares_spec C.X B R.F R.N T' hk k1 k2 (sets_at h1 hy R) (by rw [List.length_map]; exact Nat.le_of_ble_eq_true h2) fun tl h' tk' F' N' => ret h' tk' as kn _ (Sub.refl _) (R.stay F' fun q hq => N' q (List.mem_append_right _ hq)) (congrArg Value.bool (look1_ok h3 HT.sh))
      | false => rw [e] at h; cases h
  | [x, y], h =>
    replace h : (bif Nat.beq f 127 then bnd (asKer x) fun ps => bnd (asKer y) fun qs => dec2 T.goes (ps.map (·.2)) (qs.map (·.2)) σ else bif Nat.beq f 309 then bnd (setsS x σ) fun ms => bnd (setsS y σ) fun ns => dec2 T.goes ms ns σ else none) = some (v, σ') := h
    cases e : Nat.beq f 127 with
    | true =>
      rw [e, cond_true] at h
      (have hz9 := bnd_eq h; clear h; obtain ⟨ps, h1, h⟩ := hz9)
      (have hz9 := bnd_eq h; clear h; obtain ⟨qs, h2, h⟩ := hz9)
      (have hz9 := chk_eq h; clear h; obtain ⟨h3, h⟩ := hz9)
      (have hz9 := bnd_eq h; clear h; obtain ⟨b, h4, h⟩ := hz9)
      cases h
      cases Nat.eq_of_beq_eq_true e
      obtain ⟨h3, h5⟩ := andB h3
      refine ⟨.inr (.inr (.inl rfl)), fun {c d as xs} C hd hx s m kn Q R ret => ?_⟩
      obtain ⟨dp, un, gd, cn, cs, a, ccd, cl, outer, A₀, base, mean, mg, mb, hA, hk, B, T', k1, k2⟩ := cx C hd
      match xs, hx with
      | [y1, y2], ⟨hy1, hy2, _⟩ =>
      obtain ⟨_, _, ka⟩ := ker_of (fun _ => mem_im (c := c) (kn := kn)) h1 hy1
      obtain ⟨_, _, kb⟩ := ker_of (fun _ => mem_im (c := c) (kn := kn)) h2 hy2
      have l1 := Nat.eq_of_beq_eq_true h3
      have l2 := Nat.le_of_ble_eq_true h5
      rw [List.length_map] at l1 l2
      rw [List.length_map] at l1
      rw [hA]
      exact wc_spec C.X B R.F R.N T' hk k1 k2 ka kb (by rw [valK, List.length_map]; exact l2) (by rw [valK, valK, List.length_map, List.length_map]; exact l1.symm) fun tl h' tk' F' N' => ret h' tk' as kn _ (Sub.refl _) (R.stay F' fun q hq => N' q (List.mem_append_right _ hq)) (congrArg Value.bool (by rw [valK_snd, valK_snd]; exact look2_ok h4 HT.goes))
    | false =>
      rw [e, cond_false] at h
      cases e : Nat.beq f 309 with
      | true =>
        rw [e, cond_true] at h
        (have hz9 := bnd_eq h; clear h; obtain ⟨ms, h1, h⟩ := hz9)
        (have hz9 := bnd_eq h; clear h; obtain ⟨ns, h2, h⟩ := hz9)
        (have hz9 := chk_eq h; clear h; obtain ⟨h3, h⟩ := hz9)
        (have hz9 := bnd_eq h; clear h; obtain ⟨b, h4, h⟩ := hz9)
        cases h
        cases Nat.eq_of_beq_eq_true e
        obtain ⟨h3, h5⟩ := andB h3
        refine ⟨.inr (.inr (.inr rfl)), fun {c d as xs} C hd hx s m kn Q R ret => ?_⟩
        obtain ⟨dp, un, gd, cn, cs, a, ccd, cl, outer, A₀, base, mean, mg, mb, hA, hk, B, T', k1, k2⟩ := cx C hd
        match xs, hx with
        | [y1, y2], ⟨hy1, hy2, _⟩ =>
        rw [hA]
        exact goes_spec C.X B R.F R.N T' hk k1 k2 (sets_at h1 hy1 R) (sets_at h2 hy2 R) (by rw [List.length_map]; exact Nat.le_of_ble_eq_true h5) (by rw [List.length_map, List.length_map]; exact (Nat.eq_of_beq_eq_true h3).symm) fun tl h' tk' F' N' => ret h' tk' as kn _ (Sub.refl _) (R.stay F' fun q hq => N' q (List.mem_append_right _ hq)) (congrArg Value.bool (look2_ok h4 HT.goes))
      | false => rw [e] at h; cases h
end
end Mine
end
section
open PySem PySem.W PyProof.Rows
namespace Mine
noncomputable abbrev K0 (p : Params) : Frag := KH p
noncomputable def tab0 : List (Addr × Nat) := [(290, 1), (188, 4), (188, 5), (207, 7), (284, 2), (214, 1), (221, 2), (249, 3), (73, 1), (66, 2), (87, 1), (80, 3), (120, 1), (99, 4), (146, 3), (153, 3), (158, 4), (326, 3), (132, 2)]
noncomputable def lookA {α : Type} (a : Addr) : List (Addr × α) → Option α
  | [] => none
  | p :: r => bif Nat.beq a p.1 then some p.2 else lookA a r
noncomputable def atL : List (Addr × List String) := [(109, ["number", "kernel", "symbol", "core", "items", "moves", "reductions", "masks"]), (168, ["grammar", "most", "nullables", "firsts", "states", "homes", "waiting", "is_waiting"]),
  (191, ["number", "left", "right", "level_of", "action", "line", "before"]), (273, ["names", "terminal_count", "rules", "levels", "expect", "start", "by_left", "offsets", "owners", "item_count"])]
noncomputable def meL : List (Addr × List (Str × Addr)) := [(273, [(Str.ofString "symbol_count", 214), (Str.ofString "is_terminal", 221), (Str.ofString "item", 249)]), (168, [(Str.ofString "add", 153), (Str.ofString "place", 158)])]
noncomputable def maL : List (Addr × Addr) := [(109, 99), (168, 146), (191, 188), (273, 207)]
noncomputable def glS (K : Frag) (x : Str) : Option Value := match nsIn K mainGlobals x with | some r => r | none => none
noncomputable def atS (C : Addr) (x : Str) : Bool := isS (lookA C atL) fun l => anyStr x (l.map Str.ofString)
noncomputable def meS (C : Addr) (x : Str) : Option Addr := bnd (lookA C meL) (lookS x)
noncomputable def sp (K : Frag) (T : DT) : SP := ⟨K, tab0, glS K, atS, meS, fun a => lookA a maL, prS T⟩
theorem lookA_mem {α : Type} {a : Addr} {v : α} : ∀ {l : List (Addr × α)}, lookA a l = some v → (a, v) ∈ l
  | p :: r, h => by
    replace h : (bif Nat.beq a p.1 then some p.2 else lookA a r) = some v := h
    cases q : Nat.beq a p.1 with
    | true => rw [q] at h; cases h; rw [Nat.eq_of_beq_eq_true q]; exact List.mem_cons_self
    | false => rw [q] at h; exact List.mem_cons_of_mem _ (lookA_mem h)
theorem okPair_ok {f : Addr} {n : Nat} : ∀ {l : List (Addr × Nat)}, okPair f n l = true → (f, n) ∈ l
  | q :: r, h => by
    rcases Bool.or_eq_true_iff.mp (show ((Nat.beq q.1 f && Nat.beq q.2 n) || okPair f n r) = true from h) with h | h
    · obtain ⟨h1, h2⟩ := andB h
      rw [← Nat.eq_of_beq_eq_true h1, ← Nat.eq_of_beq_eq_true h2]; exact List.mem_cons_self
    · exact List.mem_cons_of_mem _ (okPair_ok h)
theorem lookS_mem {α : Type} {x : Str} {v : α} : ∀ {l : List (Str × α)}, lookS x l = some v → (x, v) ∈ l
  | p :: r, h => by
    replace h : (bif strEq x p.1 then some p.2 else lookS x r) = some v := h
    cases q : strEq x p.1 with
    | true => rw [q] at h; cases h; rw [strEq_iff.mp q]; exact List.mem_cons_self
    | false => rw [q] at h; exact List.mem_cons_of_mem _ (lookS_mem h)
theorem map_mem {α β : Type} {f g : α → β} : ∀ {l : List α}, l.map f = l.map g → ∀ q ∈ l, f q = g q
  | a :: l, h, q, hq => by
    injection h with h1 h2
    rcases List.mem_cons.mp hq with rfl | hq
    · exact h1
    · exact map_mem h2 q hq
theorem list_eta : ∀ (xs : List Value), xs = (List.range xs.length).map fun i => xs.getD i .none
  | [] => rfl
  | x :: xs => by
    have ih := list_eta xs
    rw [List.length_cons, List.range_succ_eq_map, List.map_cons, List.map_map]
    exact congrArg (x :: ·) ih
noncomputable def bltL : List (Str × BI) := [(Str.ofString "len", .len), (Str.ofString "list", .list), (Str.ofString "tuple", .tuple), (Str.ofString "range", .range), (Str.ofString "set", .set)]
section
variable (p : Params)
theorem bind_all (S : Setting) (g : Nat → Value) : tab0.map (fun q => (fnAt (K0 p) q.1).map fun fd => peek (K0 p) S (bindArgs fd ⟨(List.range q.2).map g, []⟩)) = tab0.map (fun q => (fnAt (K0 p) q.1).map fun fd => some (bindV (K0 p) fd ((List.range q.2).map g))) := by kernel_rfl
theorem gl_all : bltL.map (fun q => (nsIn (K0 p) mainGlobals q.1, bootBuiltins q.1, strEq q.1 (Str.ofString "__name__"))) = bltL.map (fun q => (some none, some q.2.v, false)) := by kernel_rfl
theorem at_all : atL.map (fun q => q.2.map fun x => (findIn (K0 p) (.ref q.1) (Str.ofString x), plainGet (K0 p) q.1 (Str.ofString ""), hasDictIn (K0 p) q.1, findIn (K0 p) (.ref q.1) (Str.ofString "__setattr__"), plainOver (K0 p) q.1)) = atL.map (fun q => q.2.map fun _ => (some none, true, true, some (some (.builtin "object.__setattr__")), true)) := by kernel_rfl
theorem me_all : meL.map (fun q => q.2.map fun x => (plainGet (K0 p) q.1 (Str.ofString ""), findIn (K0 p) (.ref q.1) x.1, isFn (K0 p) (.ref x.2))) = meL.map (fun q => q.2.map fun x => (true, some (some (.ref x.2)), true)) := by kernel_rfl
theorem ma_all : maL.map (fun q => (makesIn (K0 p) q.1, keepIn (K0 p) (.ref q.1), findIn (K0 p) (.ref q.1) (Str.ofString "__init__"), isFn (K0 p) (.ref q.2))) = maL.map (fun q => (true, true, some (some (.ref q.2)), true)) := by kernel_rfl
theorem keep_all : [321, 316, 127, 309].map (fun f => keepIn (K0 p) (.ref f)) = [321, 316, 127, 309].map (fun _ => true) := by kernel_rfl
end
theorem sp_ok {w : World} {ρ : Nat → Nat} {T : DT} (HT : TabOk ρ T) (h4 : ρ 100 = 16) : SPOk PySem.Challenge.rw_pq0572_01.row.prog w ρ VH loose (sp (K0 w.params) T) where
  gl1 {x v} h := by
    replace h : glS (K0 w.params) x = some v := h
    unfold glS at h
    split at h
    · rename_i q; rw [← h]; exact q
    · cases h
  gl0 {x b} h _ := by
    have e := map_mem (gl_all w.params) _ (lookS_mem h)
    injection e with e1 e2
    injection e2 with e2 e3
    exact ⟨e1, e2, strEq_false e3⟩
  atr {C x} h := by
    obtain ⟨l, h1, h⟩ := isS_eq h
    rw [anyStr_eq, List.any_map, List.any_eq_true] at h
    obtain ⟨y, hy, h⟩ := h
    have h : Str.ofString y = x := beq_iff_eq.mp h
    have e := map_mem (map_mem (at_all w.params) _ (lookA_mem h1)) y hy
    injection e with e0 e
    injection e with e1 e
    injection e with e2 e
    injection e with e3 e4
    rw [h] at e0
    exact ⟨e0, e1, e2, e3, e4⟩
  meth {C x f} h := by
    obtain ⟨l, h1, h⟩ := bnd_eq (show bnd (lookA C meL) (lookS x) = some f from h)
    have e := map_mem (map_mem (me_all w.params) _ (lookA_mem h1)) _ (lookS_mem h)
    injection e with e0 e
    injection e with e1 e2
    exact ⟨e0, e1, e2⟩
  mak {a f} h := by
    have e := map_mem (ma_all w.params) _ (lookA_mem h)
    injection e with e0 e
    injection e with e1 e
    injection e with e2 e3
    exact ⟨e0, e1, e2, e3⟩
  bind {f n} h {fd} hf {xs} hn {s} X := by
    refine kp_binds X fun S => ?_
    have e := map_mem (bind_all w.params S fun i => xs.getD i .none) _ (okPair_ok h)
    have hf : fnAt (K0 w.params) f = some fd := hf
    simp only [hf, Option.map_some] at e
    injection e with e
    rw [← hn, ← list_eta] at e
    exact e
  pr {f vs σ v σ'} h := by
    obtain ⟨h1, h2⟩ := prS_ok (w := w) HT h
    have e := map_mem (keep_all w.params)
    refine ⟨?_, h2⟩
    rcases h1 with rfl | rfl | rfl | rfl
    · exact e 321 (by decide)
    · exact e 316 (by decide)
    · exact e 127 (by decide)
    · exact e 309 (by decide)
  four := h4
end Mine
end
section
open PySem PySem.W PyProof.Rows
namespace Mine
noncomputable def vars (k n : Nat) : List SV := (List.range n).map fun i => .set [k + i]
noncomputable def oneM (n : Nat) : List (List Nat) := (List.range n).map fun i => [0 + i]
noncomputable def othM (n : Nat) : List (List Nat) := (List.range n).map fun i => [n + i]
noncomputable def fulM (n : Nat) : List (List Nat) := (List.range n).map fun _ => [100]
noncomputable def zerM (n : Nat) : List (List Nat) := (List.range n).map fun _ => []
noncomputable def jn (a b : List (List Nat)) : List (List Nat) := List.zipWith join a b
noncomputable def gT (n : Nat) : List (List (List Nat) × List (List Nat) × Bool) := [(oneM n, othM n, true), (othM n, oneM n, true), (oneM n, oneM n, true), (oneM n, zerM n, true), (jn (oneM n) (othM n), fulM n, true), (jn (jn (oneM n) (othM n)) (fulM n), oneM n, true), (jn (jn (oneM n) (othM n)) (fulM n), othM n, true)]
noncomputable def gF (n : Nat) : List (List (List Nat) × List (List Nat) × Bool) := [(oneM n, othM n, false), (othM n, oneM n, false), (oneM n, oneM n, true), (oneM n, zerM n, true), (oneM n, fulM n, true), (othM n, fulM n, true), (jn (oneM n) (fulM n), oneM n, true), (jn (oneM n) (fulM n), othM n, true), (othM n, othM n, true)]
noncomputable def tbl (g : Bool) (n : Nat) (sh : List (List (List Nat) × Bool)) : DT := ⟨bif g then gT n else gF n, sh⟩
noncomputable def bodyOf (K : Frag) (f : Addr) : List Stmt := match fnAt K f with
  | some ⟨_, _, _, .stmts b, _, _, _, _, _, _, _, _, _, _, _⟩ => b
  | _ => []
noncomputable def namesOf (K : Frag) (f : Addr) : List (Str × NameKind) := match fnAt K f with
  | some ⟨_, _, _, _, scope, _, _, _, _, _, _, _, _, _, _⟩ => scope.names
  | _ => []
noncomputable def gam (K : Frag) : SG := ⟨namesOf K 331, [(Str.ofString "one", 2), (Str.ofString "other", 3)], none, 20⟩
noncomputable def stA (n : Nat) : SS := ⟨[(Str.ofString "count", .int n), (Str.ofString "first", .tup (kerS 0 (oneM n))), (Str.ofString "second", .tup (kerS 0 (othM n)))], [.list (vars 0 n), .list (vars n n), .cell (some (.loc 0)), .cell (some (.loc 1))]⟩
noncomputable def run (K : Frag) (T : DT) (a b : Nat) (σ : SS) : Option (SF × SS) := evB (evN (sp K T) 60) (gam K) (((bodyOf K 331).drop a).take b) σ
noncomputable def stB (K : Frag) (g : Bool) (n : Nat) : SS := match run K (tbl g n []) 6 6 (stA n) with | some (_, σ) => σ | none => ⟨[], []⟩
noncomputable def isRT : Option (SF × SS) → Bool | some (.ret (.bool true), _) => true | _ => false
end Mine
end
section
open PySem PySem.W PyProof.Rows
namespace Mine
section
variable {ρ : Nat → Nat}
theorem orOf_zip : ∀ {a b : List Nat}, b.length = a.length → List.zipWith (· ||| ·) a b = orOf a b := by
  intro a b h
  refine List.ext_getElem? fun i => ?_
  rw [List.getElem?_zipWith, orOf, List.getElem?_map]
  by_cases hi : i < a.length
  · rw [List.getElem?_range hi, List.getElem?_eq_getElem hi, List.getElem?_eq_getElem (h ▸ hi)]
    simp [List.getD, List.getElem?_eq_getElem hi, List.getElem?_eq_getElem (h ▸ hi : i < b.length)]
  · rw [List.getElem?_eq_none (l := a) (Nat.le_of_not_lt hi), List.getElem?_eq_none (l := List.range a.length) (by rw [List.length_range]; exact Nat.le_of_not_lt hi)]
    cases b[i]? <;> rfl
theorem jn_map : ∀ {a b : List (List Nat)}, (jn a b).map (mval ρ) = List.zipWith (· ||| ·) (a.map (mval ρ)) (b.map (mval ρ))
  | [], _ => rfl
  | _ :: _, [] => rfl
  | x :: a, y :: b => by
    show mval ρ (join x y) :: (jn a b).map (mval ρ) = (mval ρ x ||| mval ρ y) :: List.zipWith (· ||| ·) (a.map (mval ρ)) (b.map (mval ρ))
    rw [mval_join, jn_map]
theorem jn_or {a b : List (List Nat)} (h : b.length = a.length) : (jn a b).map (mval ρ) = orOf (a.map (mval ρ)) (b.map (mval ρ)) := by rw [jn_map, orOf_zip (by rw [List.length_map, List.length_map]; exact h)]
theorem full_of (h4 : ρ 100 = 16) {n : Nat} : Full ((fulM n).map (mval ρ)) := fun i hi => by
  rw [fulM, List.map_map, List.length_map, List.length_range] at hi
  rw [fulM, List.map_map, List.getD, List.getElem?_map, List.getElem?_range hi]
  show (ρ 100 ||| 0).testBit 4 = true
  rw [h4]; rfl
theorem len_ful (n : Nat) : (fulM n).length = n := by rw [fulM, List.length_map, List.length_range]
theorem len_one (n : Nat) : (oneM n).length = n := by rw [oneM, List.length_map, List.length_range]
theorem len_oth (n : Nat) : (othM n).length = n := by rw [othM, List.length_map, List.length_range]
theorem len_jn {a b : List (List Nat)} (h : b.length = a.length) : (jn a b).length = a.length := by rw [jn, List.length_zipWith, h, Nat.min_self]
theorem zer_at (n i : Nat) : ((zerM n).map (mval ρ)).getD i 0 = 0 := by
  rw [zerM, List.map_map, List.getD, List.getElem?_map]
  cases (List.range n)[i]? <;> rfl
theorem tab_ok (h4 : ρ 100 = 16) {g : Bool} {n : Nat} {sh : List (List (List Nat) × Bool)} (hg : goesB ((oneM n).map (mval ρ)) ((othM n).map (mval ρ)) = g) (hsh : ∀ q ∈ sh, sharesB (q.1.map (mval ρ)) = q.2) : TabOk ρ (tbl g n sh) := by
  have l1 := len_one n
  have l2 := len_oth n
  have l3 := len_ful n
  have l4 : (jn (oneM n) (othM n)).length = n := by rw [len_jn (l2.trans l1.symm), l1]
  have f : ∀ {x : List (List Nat)}, x.length = n → Full ((jn x (fulM n)).map (mval ρ)) := fun {x} h => by rw [jn_or (l3.trans h.symm)]; exact or_full (by rw [List.length_map, List.length_map, l3, h]) (full_of h4)
  have e : ∀ {x y : List (List Nat)}, x.length = n → y.length = n → (y.map (mval ρ)).length = (x.map (mval ρ)).length := fun {x y} h k => by rw [List.length_map, List.length_map, h, k]
  refine ⟨?_, hsh⟩
  cases g with
  | true =>
    show ∀ q ∈ gT n, _
    unfold gT
    refine List.forall_mem_cons.mpr ⟨hg, List.forall_mem_cons.mpr ⟨(goes_symm (e l1 l2)).trans hg, List.forall_mem_cons.mpr ⟨goes_self _, List.forall_mem_cons.mpr ⟨goes_zero (zer_at n), List.forall_mem_cons.mpr ⟨goes_full (e l4 l3) (full_of h4), List.forall_mem_cons.mpr ⟨full_goes (f l4), List.forall_mem_cons.mpr ⟨full_goes (f l4), fun _ h => nomatch h⟩⟩⟩⟩⟩⟩⟩
  | false =>
    show ∀ q ∈ gF n, _
    unfold gF
    refine List.forall_mem_cons.mpr ⟨hg, List.forall_mem_cons.mpr ⟨(goes_symm (e l1 l2)).trans hg, List.forall_mem_cons.mpr ⟨goes_self _, List.forall_mem_cons.mpr ⟨goes_zero (zer_at n), List.forall_mem_cons.mpr ⟨goes_full (e l1 l3) (full_of h4), List.forall_mem_cons.mpr ⟨goes_full (e l2 l3) (full_of h4), List.forall_mem_cons.mpr ⟨full_goes (f l1), List.forall_mem_cons.mpr ⟨full_goes (f l1), List.forall_mem_cons.mpr ⟨goes_self _, fun _ h => nomatch h⟩⟩⟩⟩⟩⟩⟩⟩⟩
end
section
variable {prog : Program} {w : World} {ρ : Nat → Nat} {p : Program} {loose : List Str} {P : SP} {c : Cx} {Γ : SG} {env : Env} {r : RC}
theorem evB_then (H : RcOk prog w ρ P.K p loose r) (C : CxOk P.K p loose c Γ.d) {Q : Flow → Shared → Prop} {b : List Stmt} {σ1 : SS} : ∀ {a : List Stmt} {σ : SS} {as : AS}, evB r Γ a σ = some (.next, σ1) → GOk w ρ c Γ env as → ∀ (s : Shared) (m : Str → Option Value) (kn : List (Addr × Obj)), Rep prog w ρ c s.heap σ as m kn →
    (∀ h' tk as' m' kn', Sub as as' → Rep prog w ρ c h' σ1 as' m' kn' → wpAny (model prog w) c.A (execs b env) Q NoE { s with heap := h', toks := tk }) → wpAny (model prog w) c.A (execs (a ++ b) env) Q NoE s
  | [], σ, as, h, G, s, m, kn, R, k => by cases h; exact k s.heap s.toks as m kn (Sub.refl _) R
  | st :: a, σ, as, h, G, s, m, kn, R, k => by
    obtain ⟨g, σ2, h1, h2⟩ := bn2_eq h
    clear h
    refine wpAny_execs_cons (H.s h1 C G s m kn _ R fun h' tk as' m' kn' x S R' hx => ?_)
    cases g with
    | next => cases hx; exact evB_then H C h2 (G.mono S) _ m' kn' R' fun h3 tk3 as3 m3 kn3 S3 R3 => k h3 tk3 as3 m3 kn3 (S.trans S3) R3
    | ret v => cases h2
end
end Mine
end
section
open PySem PySem.W PyProof.Rows
namespace Mine
noncomputable def isN : Option (SF × SS) → Bool | some (.next, _) => true | _ => false
noncomputable def shB (g : Bool) (n : Nat) : List (List (List Nat) × Bool) := bif g then [] else [(jn (oneM n) (othM n), true)]
noncomputable def shI (g : Bool) (n : Nat) : List (List (List (List Nat) × Bool)) := [[(oneM n, true)], [(oneM n, false), (othM n, true)], [(oneM n, false), (othM n, false), (jn (oneM n) (othM n), !g)]]
section
variable (p : Params)
theorem parts : (bodyOf (K0 p) 331).drop 6 = ((bodyOf (K0 p) 331).drop 6).take 6 ++ (((bodyOf (K0 p) 331).drop 12).take 1 ++ ((bodyOf (K0 p) 331).drop 13).take 1) := by kernel_rfl
theorem runA_T : [1, 2, 3, 4].map (fun n => isN (run (K0 p) (tbl true n []) 6 6 (stA n))) = [true, true, true, true] := by kernel_rfl
theorem runA_F : [1, 2, 3, 4].map (fun n => isN (run (K0 p) (tbl false n []) 6 6 (stA n))) = [true, true, true, true] := by kernel_rfl
theorem runI_T : [1, 2, 3, 4].map (fun n => (shI true n).map fun sh => run (K0 p) (tbl true n sh) 12 1 (stB (K0 p) true n)) = [1, 2, 3, 4].map (fun n => (shI true n).map fun sh => some (.next, stB (K0 p) true n)) := by kernel_rfl
theorem runI_F : [1, 2, 3, 4].map (fun n => (shI false n).map fun sh => run (K0 p) (tbl false n sh) 12 1 (stB (K0 p) false n)) = [1, 2, 3, 4].map (fun n => (shI false n).map fun sh => some (.next, stB (K0 p) false n)) := by kernel_rfl
theorem runB_T1 : isRT (run (K0 p) (tbl true 1 (shB true 1)) 13 1 (stB (K0 p) true 1)) = true := by kernel_rfl
theorem runB_T2 : isRT (run (K0 p) (tbl true 2 (shB true 2)) 13 1 (stB (K0 p) true 2)) = true := by kernel_rfl
theorem runB_T3 : isRT (run (K0 p) (tbl true 3 (shB true 3)) 13 1 (stB (K0 p) true 3)) = true := by kernel_rfl
theorem runB_T4 : isRT (run (K0 p) (tbl true 4 (shB true 4)) 13 1 (stB (K0 p) true 4)) = true := by kernel_rfl
theorem runB_F1 : isRT (run (K0 p) (tbl false 1 (shB false 1)) 13 1 (stB (K0 p) false 1)) = true := by kernel_rfl
theorem runB_F2 : isRT (run (K0 p) (tbl false 2 (shB false 2)) 13 1 (stB (K0 p) false 2)) = true := by kernel_rfl
theorem runB_F3 : isRT (run (K0 p) (tbl false 3 (shB false 3)) 13 1 (stB (K0 p) false 3)) = true := by kernel_rfl
theorem runB_F4 : isRT (run (K0 p) (tbl false 4 (shB false 4)) 13 1 (stB (K0 p) false 4)) = true := by kernel_rfl
end
theorem runs (p : Params) (g : Bool) {n : Nat} (h1 : 1 ≤ n) (h4 : n ≤ 4) : run (K0 p) (tbl g n []) 6 6 (stA n) = some (.next, stB (K0 p) g n) ∧ (∀ sh ∈ shI g n, run (K0 p) (tbl g n sh) 12 1 (stB (K0 p) g n) = some (.next, stB (K0 p) g n)) ∧
    ∃ σ, run (K0 p) (tbl g n (shB g n)) 13 1 (stB (K0 p) g n) = some (.ret (.bool true), σ) := by
  have hn : n ∈ [1, 2, 3, 4] := by
    have : n = 1 ∨ n = 2 ∨ n = 3 ∨ n = 4 := by omega
    rcases this with rfl | rfl | rfl | rfl <;> decide
  have a1 : isN (run (K0 p) (tbl g n []) 6 6 (stA n)) = true := by
    cases g with
    | true => exact map_mem (g := fun _ => true) (runA_T p) n hn
    | false => exact map_mem (g := fun _ => true) (runA_F p) n hn
  have a2 : ∀ sh ∈ shI g n, run (K0 p) (tbl g n sh) 12 1 (stB (K0 p) g n) = some (.next, stB (K0 p) g n) := by
    cases g with
    | true => exact map_mem (map_mem (runI_T p) n hn)
    | false => exact map_mem (map_mem (runI_F p) n hn)
  have a3 : isRT (run (K0 p) (tbl g n (shB g n)) 13 1 (stB (K0 p) g n)) = true := by
    have : n = 1 ∨ n = 2 ∨ n = 3 ∨ n = 4 := by omega
    cases g <;> rcases this with rfl | rfl | rfl | rfl
    · exact runB_F1 p
    · exact runB_F2 p
    · exact runB_F3 p
    · exact runB_F4 p
    · exact runB_T1 p
    · exact runB_T2 p
    · exact runB_T3 p
    · exact runB_T4 p
  refine ⟨?_, a2, ?_⟩
  · have hB : stB (K0 p) g n = match run (K0 p) (tbl g n []) 6 6 (stA n) with | some (_, σ) => σ | none => ⟨[], []⟩ := rfl
    rw [hB]
    generalize run (K0 p) (tbl g n []) 6 6 (stA n) = o at a1
    cases o with
    | none => cases a1
    | some q => obtain ⟨f, σ⟩ := q; cases f with
      | next => rfl
      | ret v => cases a1
  · generalize run (K0 p) (tbl g n (shB g n)) 13 1 (stB (K0 p) g n) = o at a3
    cases o with
    | none => cases a3
    | some q => obtain ⟨f, σ⟩ := q; cases f with
      | next => cases a3
      | ret v => cases v with
        | bool b => cases b with
          | true => exact ⟨σ, rfl⟩
          | false => cases a3
        | _ => cases a3
end Mine
end
section
open PySem PySem.W PyProof.Rows
namespace Mine
theorem tail_ok {w : World} {ρ : Nat → Nat} {n : Nat} (n1 : 1 ≤ n) (n4 : n ≤ 4) (h4 : ρ 100 = 16) {c : Cx} {env : Env} {s : Shared} {as : AS} {m : Str → Option Value} {kn : List (Addr × Obj)} (C : CxOk (K0 w.params) VH loose c 20) (G : GOk w ρ c (gam (K0 w.params)) env as)
    (R : Rep PySem.Challenge.rw_pq0572_01.row.prog w ρ c s.heap (stA n) as m kn) {Q : Flow → Shared → Prop} (ret : ∀ h' tk m', Fr c.h₀ c.L h' m' → Q (.ret (.bool true)) { s with heap := h', toks := tk }) :
    wpAny (model PySem.Challenge.rw_pq0572_01.row.prog w) c.A (execs ((bodyOf (K0 w.params) 331).drop 6) env) Q NoE s := by
  rw [parts w.params]
  generalize hg : goesB ((oneM n).map (mval ρ)) ((othM n).map (mval ρ)) = g
  obtain ⟨r1, r2, σ3, r3⟩ := runs w.params g n1 n4
  have hl : (othM n).length = (oneM n).length := (len_oth n).trans (len_one n).symm
  have hlm : ((othM n).map (mval ρ)).length = ((oneM n).map (mval ρ)).length := by rw [List.length_map, List.length_map, hl]
  have H : ∀ {sh}, (∀ q ∈ sh, sharesB (q.1.map (mval ρ)) = q.2) → RcOk PySem.Challenge.rw_pq0572_01.row.prog w ρ (sp (K0 w.params) (tbl g n sh)).K VH loose (evN (sp (K0 w.params) (tbl g n sh)) 60) := fun hsh => evN_ok (sp_ok (tab_ok h4 hg hsh) h4) 60
  refine evB_then (Γ := gam (K0 w.params)) (P := sp (K0 w.params) (tbl g n [])) (H fun _ h => nomatch h) C r1 G s m kn R fun h' tk as' m' kn' S R' => ?_
  have key : ∀ sh ∈ shI g n, (∀ q ∈ sh, sharesB (q.1.map (mval ρ)) = q.2) → wpAny (model PySem.Challenge.rw_pq0572_01.row.prog w) c.A (execs (((bodyOf (K0 w.params) 331).drop 12).take 1 ++ ((bodyOf (K0 w.params) 331).drop 13).take 1) env) Q NoE { s with heap := h', toks := tk } := fun sh hsh ht => by
    refine evB_then (Γ := gam (K0 w.params)) (P := sp (K0 w.params) (tbl g n sh)) (H ht) C (r2 sh hsh) (G.mono S) _ m' kn' R' fun h2 tk2 as2 m2 kn2 S2 R2 => ?_
    have hb : ∀ q ∈ shB g n, sharesB (q.1.map (mval ρ)) = q.2 := by
      cases g with
      | true => exact fun _ h => nomatch h
      | false => exact List.forall_mem_cons.mpr ⟨by rw [jn_or hl]; exact goes_or_shares hg, fun _ h => nomatch h⟩
    refine evB_ok (Γ := gam (K0 w.params)) (P := sp (K0 w.params) (tbl g n (shB g n))) (H hb) C r3 ((G.mono S).mono S2) _ m2 kn2 Q R2 fun h3 tk3 as3 m3 kn3 x S3 R3 hx => ?_
    obtain ⟨y, rfl, hy⟩ := hx
    cases hy
    exact ret h3 tk3 m3 R3.F
  cases s1 : sharesB ((oneM n).map (mval ρ)) with
  | true => exact key _ (List.mem_cons_self) (List.forall_mem_cons.mpr ⟨s1, fun _ h => nomatch h⟩)
  | false =>
    cases s2 : sharesB ((othM n).map (mval ρ)) with
    | true => exact key _ (List.mem_cons_of_mem _ List.mem_cons_self) (List.forall_mem_cons.mpr ⟨s1, List.forall_mem_cons.mpr ⟨s2, fun _ h => nomatch h⟩⟩)
    | false =>
      refine key _ (List.mem_cons_of_mem _ (List.mem_cons_of_mem _ List.mem_cons_self)) (List.forall_mem_cons.mpr ⟨s1, List.forall_mem_cons.mpr ⟨s2, List.forall_mem_cons.mpr ⟨?_, fun _ h => nomatch h⟩⟩⟩)
      have := goes_shares hlm s1 s2
      rw [hg] at this
      rw [jn_or hl]
      show _ = !g
      rw [this, Bool.not_not]
end Mine
end
section
open PySem PySem.W PyProof.Rows
namespace Mine
noncomputable def Placed (o : Obj) : Prop := (∃ v, o.data = .cell v) ∨ o.cls = .type "list"
theorem placed_tup {its : Array Value} {n : Nat} : ¬Placed (tupO its n) := fun h => h.elim (fun ⟨v, e⟩ => nomatch e) fun e => by injection e with e; exact absurd e (by decide)
theorem placed_set {bt : Bool} {m : Nat} {o : Obj} (h : IsM bt m o) : ¬Placed o := by
  obtain ⟨_, tk, ep, k, f, l, mv, rfl, _⟩ := h
  exact fun h => h.elim (fun ⟨v, e⟩ => nomatch e) fun e => by injection e with e; exact absurd e (by decide)
noncomputable def rho (ms ns : List Nat) (i : Nat) : Nat := if i = 100 then 16 else (ms ++ ns).getD i 0
theorem rho_one {ms ns : List Nat} {i : Nat} (h : i < ms.length) (h4 : ms.length ≤ 4) : mval (rho ms ns) [0 + i] = ms.getD i 0 := by
  show rho ms ns (0 + i) ||| 0 = _
  rw [Nat.or_zero, Nat.zero_add, rho, if_neg (by omega), List.getD, List.getD, List.getElem?_append_left h]
theorem rho_oth {ms ns : List Nat} {i : Nat} (h : i < ns.length) (h4 : ms.length ≤ 4) (hl : ns.length = ms.length) : mval (rho ms ns) [ms.length + i] = ns.getD i 0 := by
  show rho ms ns (ms.length + i) ||| 0 = _
  rw [Nat.or_zero, rho, if_neg (by omega), List.getD, List.getD, List.getElem?_append_right (Nat.le_add_right _ _), Nat.add_sub_cancel_left]
theorem map_range {ms : List Nat} {f : Nat → Nat} (h : ∀ i, i < ms.length → f i = ms.getD i 0) : (List.range ms.length).map f = ms := by
  refine List.ext_getElem? fun i => ?_
  rw [List.getElem?_map]
  by_cases hi : i < ms.length
  · rw [List.getElem?_range hi, List.getElem?_eq_getElem hi, Option.map_some, h i hi, List.getD, List.getElem?_eq_getElem hi]; rfl
  · rw [List.getElem?_eq_none (l := ms) (Nat.le_of_not_lt hi), List.getElem?_eq_none (l := List.range ms.length) (by rw [List.length_range]; exact Nat.le_of_not_lt hi)]; rfl
theorem nodup_at {α : Type} : ∀ {l : List α} {i j : Nat} {a : α}, l.Nodup → nth l i = some a → nth l j = some a → i = j
  | _ :: _, 0, 0, _, _, _, _ => rfl
  | b :: l, 0, j + 1, a, h, h1, h2 => by
    have h1 : some b = some a := h1
    cases h1
    have h2 : nth l j = some b := h2
    rw [nth_eq] at h2
    exact absurd (List.mem_of_getElem? h2) (List.nodup_cons.mp h).1
  | b :: l, i + 1, 0, a, h, h1, h2 => by
    have h2 : some b = some a := h2
    cases h2
    have h1 : nth l i = some b := h1
    rw [nth_eq] at h1
    exact absurd (List.mem_of_getElem? h1) (List.nodup_cons.mp h).1
  | b :: l, i + 1, j + 1, a, h, h1, h2 => congrArg (· + 1) (nodup_at (l := l) (List.nodup_cons.mp h).2 h1 h2)
open Classical in
theorem ker_in {w : World} {ρ : Nat → Nat} {as : AS} {tl : List (Addr × Obj)} {r : Value} {ms : List (List Nat)} (h : KerAt tl r (kerOf (ms.map (mval ρ)))) (hs : ∀ q ∈ tl, ¬Placed q.2 → q ∈ as.im) : IsV w ρ as (.tup (kerS 0 ms)) r := by
  have k : KerAt (tl.filter fun q => decide (q ∈ as.im)) r (kerOf (ms.map (mval ρ))) := by
    obtain ⟨a, its, n, rfl, h1, h2, h3⟩ := h
    refine ⟨a, its, n, rfl, List.mem_filter.mpr ⟨h1, decide_eq_true (hs _ h1 placed_tup)⟩, h2, fun i x p e1 e2 => ?_⟩
    obtain ⟨b, t1, t2, n2, rfl, h4⟩ := h3 i x p e1 e2
    exact ⟨b, t1, t2, n2, rfl, List.mem_filter.mpr ⟨h4, decide_eq_true (hs _ h4 placed_tup)⟩⟩
  have S : Sub ((⟨as.ad, []⟩ : AS).fix (tl.filter fun q => decide (q ∈ as.im))) as := ⟨⟨[], (List.append_nil _).symm⟩, fun q hq => by
    have hq : q ∈ (tl.filter fun q => decide (q ∈ as.im)) ++ [] := hq
    rw [List.append_nil] at hq
    exact of_decide_eq_true (List.mem_filter.mp hq).2⟩
  exact IsV.mono S (ker_is k)
theorem front_ok {w : World} {A : Around} {h₀ : Heap} {L : Addr} {env : Env} {s : Shared} {m : Str → Option Value} {rest : List (Addr × Obj)} {D1 D2 a1 a2 : Addr} {oN oO : Obj} {r1 r2 : Value} {t : Tok} {ms1 ms2 : List Nat} {Q : Flow → Shared → Prop}
    (C : CxOk (K0 w.params) VH loose ⟨A, h₀, L, env, []⟩ 20) (hn : env.scope.names = namesOf (K0 w.params) 331) (hk : env.scope.kind = .function) (hgl : env.globals = mainGlobals) (hbl : env.builtins = builtinsNs) (c1 : env.cells.lookup (Str.ofString "one") = some a1) (c2 : env.cells.lookup (Str.ofString "other") = some a2)
    (F : Fr h₀ L s.heap m) (N : News h₀ L s.heap ((a2, oO) :: (a1, oN) :: rest)) (h12 : a1 ≠ a2) (hD : D1 ≠ D2) (d1 : oN.data = .cell (some (.ref D1))) (d2 : oO.data = .cell (some (.ref D2))) (e1 : m (Str.ofString "count") = some (.int (ms1.length : Nat) t)) (e2 : m (Str.ofString "first") = some r1) (e3 : m (Str.ofString "second") = some r2)
    (V1 : SetsAt (byT w) rest (.ref D1) ms1) (V2 : SetsAt (byT w) rest (.ref D2) ms2) (K1 : KerAt rest r1 (kerOf ms1)) (K2 : KerAt rest r2 (kerOf ms2)) (hl : ms2.length = ms1.length) (n1 : 1 ≤ ms1.length) (n4 : ms1.length ≤ 4)
    (ret : ∀ h' tk m', Fr h₀ L h' m' → Q (.ret (.bool true)) { s with heap := h', toks := tk }) : wpAny (model PySem.Challenge.rw_pq0572_01.row.prog w) A (execs ((bodyOf (K0 w.params) 331).drop 6) env) Q NoE s := by
  obtain ⟨_, its1, k1, q1, g1, z1, s1⟩ := V1
  cases q1
  obtain ⟨_, its2, k2, q2, g2, z2, s2⟩ := V2
  cases q2
  obtain ⟨xs1⟩ := its1
  obtain ⟨xs2⟩ := its2
  have up : ∀ q ∈ rest, q ∈ (a2, oO) :: (a1, oN) :: rest := fun q h => List.mem_cons_of_mem _ (List.mem_cons_of_mem _ h)
  let kn : List (Addr × Obj) := [(D1, W.listOf xs1.toArray k1), (D2, W.listOf xs2.toArray k2), (a1, oN), (a2, oO)]
  have hkn : ∀ q ∈ kn, q ∈ (a2, oO) :: (a1, oN) :: rest := fun q h => by
    rcases List.mem_cons.mp h with rfl | h
    · exact up _ g1
    · rcases List.mem_cons.mp h with rfl | h
      · exact up _ g2
      · rcases List.mem_cons.mp h with rfl | h
        · exact List.mem_cons_of_mem _ List.mem_cons_self
        · rcases List.mem_cons.mp h with rfl | h
          · exact List.mem_cons_self
          · exact nomatch h
  have hpl : ∀ q ∈ kn, Placed q.2 := fun q h => by
    rcases List.mem_cons.mp h with rfl | h
    · exact .inr rfl
    · rcases List.mem_cons.mp h with rfl | h
      · exact .inr rfl
      · rcases List.mem_cons.mp h with rfl | h
        · exact .inl ⟨_, d1⟩
        · rcases List.mem_cons.mp h with rfl | h
          · exact .inl ⟨_, d2⟩
          · exact nomatch h
  have same : ∀ {p q : Addr × Obj}, p ∈ (a2, oO) :: (a1, oN) :: rest → q ∈ (a2, oO) :: (a1, oN) :: rest → p.1 = q.1 → p.2 = q.2 := fun {p q} hp hq e => Option.some.inj ((N p hp).1.symm.trans (e ▸ (N q hq).1))
  let im : List (Addr × Obj) := rest.filter fun q => !(q.1 == D1 || q.1 == D2 || q.1 == a1 || q.1 == a2)
  have him : ∀ q ∈ rest, ¬Placed q.2 → q ∈ im := fun q hq np => List.mem_filter.mpr ⟨hq, by
    have ne : ∀ p ∈ kn, (q.1 == p.1) = false := fun p hp => beq_eq_false_iff_ne.mpr fun e => np (same (up q hq) (hkn p hp) e ▸ hpl p hp)
    rw [ne (D1, W.listOf xs1.toArray k1) List.mem_cons_self, ne (D2, W.listOf xs2.toArray k2) (List.mem_cons_of_mem _ List.mem_cons_self), ne (a1, oN) (List.mem_cons_of_mem _ (List.mem_cons_of_mem _ List.mem_cons_self)), ne (a2, oO) (List.mem_cons_of_mem _ (List.mem_cons_of_mem _ (List.mem_cons_of_mem _ List.mem_cons_self)))]; rfl⟩
  have hap : ∀ p ∈ kn, ∀ q ∈ im, q.1 ≠ p.1 := fun p hp q hq e => by
    have := (List.mem_filter.mp hq).2
    rw [e] at this
    rcases List.mem_cons.mp hp with rfl | hp
    · simp at this
    · rcases List.mem_cons.mp hp with rfl | hp
      · simp at this
      · rcases List.mem_cons.mp hp with rfl | hp
        · simp at this
        · rcases List.mem_cons.mp hp with rfl | hp
          · simp at this
          · exact nomatch hp
  have lc : ∀ {D a : Addr} {xs : List Value} {k : Nat} {o : Obj} {v : Option Value}, (D, W.listOf xs.toArray k) ∈ (a2, oO) :: (a1, oN) :: rest → (a, o) ∈ (a2, oO) :: (a1, oN) :: rest → o.data = .cell v → D ≠ a := fun h1 h2 h3 e => by
    have := same h1 h2 e
    simp only at this
    rw [← this] at h3; cases h3
  have nd : [D1, D2, a1, a2].Nodup := by
    have x1 := lc (hkn _ List.mem_cons_self) (hkn (a1, oN) (List.mem_cons_of_mem _ (List.mem_cons_of_mem _ List.mem_cons_self))) d1
    have x2 := lc (hkn _ List.mem_cons_self) (hkn (a2, oO) (List.mem_cons_of_mem _ (List.mem_cons_of_mem _ (List.mem_cons_of_mem _ List.mem_cons_self)))) d2
    have x3 := lc (hkn (D2, W.listOf xs2.toArray k2) (List.mem_cons_of_mem _ List.mem_cons_self)) (hkn (a1, oN) (List.mem_cons_of_mem _ (List.mem_cons_of_mem _ List.mem_cons_self))) d1
    have x4 := lc (hkn (D2, W.listOf xs2.toArray k2) (List.mem_cons_of_mem _ List.mem_cons_self)) (hkn (a2, oO) (List.mem_cons_of_mem _ (List.mem_cons_of_mem _ (List.mem_cons_of_mem _ List.mem_cons_self)))) d2
    simp [hD, h12, x1, x2, x3, x4]
  let ρ := rho ms1 ms2
  let as : AS := ⟨[D1, D2, a1, a2], im⟩
  have m1 : (oneM ms1.length).map (mval ρ) = ms1 := by rw [oneM, List.map_map]; exact map_range fun i hi => rho_one hi n4
  have m2 : (othM ms1.length).map (mval ρ) = ms2 := by rw [othM, List.map_map, ← hl]; exact map_range fun i hi => by rw [hl]; exact rho_oth hi n4 hl
  have setV : ∀ {x : Value} {j k : Nat}, SetAt (byT w) rest x k → mval ρ [j] = k → IsV w ρ as (.set [j]) x := fun {x j k} h e => by
    obtain ⟨a, o, rfl, h1, h2⟩ := h
    exact ⟨a, o, rfl, him _ h1 (placed_set h2), by rw [e]; exact h2⟩
  have vars_at : ∀ {k n i : Nat} {u : SV}, (vars k n)[i]? = some u → i < n ∧ u = .set [k + i] := fun {k n i u} h => by
    rw [vars, List.getElem?_map, Option.map_eq_some_iff] at h
    obtain ⟨j, h1, rfl⟩ := h
    obtain ⟨h2, h3⟩ := List.getElem?_eq_some_iff.mp h1
    rw [List.length_range] at h2
    rw [List.getElem_range] at h3
    exact ⟨h2, by rw [h3]⟩
  have L1 : All2 (IsV w ρ as) (vars 0 ms1.length) xs1 := all2_of (by rw [vars, List.length_map, List.length_range]; exact z1.symm) fun i u x h1 h2 => by
    obtain ⟨hi, rfl⟩ := vars_at h1
    exact setV (s1 i x (ms1.getD i 0) (by rw [List.getElem?_toArray]; exact h2) (by rw [List.getD, List.getElem?_eq_getElem hi]; rfl)) (rho_one hi n4)
  have L2 : All2 (IsV w ρ as) (vars ms1.length ms1.length) xs2 := all2_of (by rw [vars, List.length_map, List.length_range, ← hl]; exact z2.symm) fun i u x h1 h2 => by
    obtain ⟨hi, rfl⟩ := vars_at h1
    rw [← hl] at hi
    exact setV (s2 i x (ms2.getD i 0) (by rw [List.getElem?_toArray]; exact h2) (by rw [List.getD, List.getElem?_eq_getElem hi]; rfl)) (rho_oth hi n4 hl)
  have T1 : IsV w ρ as (.tup (kerS 0 (oneM ms1.length))) r1 := ker_in (tl := rest) (by rw [m1]; exact K1) him
  have T2 : IsV w ρ as (.tup (kerS 0 (othM ms1.length))) r2 := ker_in (tl := rest) (by rw [m2]; exact K2) him
  refine tail_ok (ρ := ρ) (as := as) (kn := kn) (m := m) n1 n4 (if_pos rfl) C ⟨hn, hk, hgl, hbl, fun x i e => ?_, fun _ => rfl, fun _ e => nomatch e⟩ ⟨F, fun q hq => ?_, nd, fun p hp q hq => ?_, rfl, ?_, ?_, ?_, fun _ _ _ h => nomatch h⟩ ret
  · replace e : (bif strEq x (Str.ofString "one") then some 2 else bif strEq x (Str.ofString "other") then some 3 else none) = some i := e
    cases q : strEq x (Str.ofString "one") with
    | true => rw [q] at e; cases e; exact ⟨a1, rfl, by rw [strEq_iff.mp q]; exact c1⟩
    | false =>
      rw [q, cond_false] at e
      cases q : strEq x (Str.ofString "other") with
      | true => rw [q] at e; cases e; exact ⟨a2, rfl, by rw [strEq_iff.mp q]; exact c2⟩
      | false => rw [q] at e; cases e
  · exact led_cases (P := fun q => _) hq (fun h => N q (hkn q h)) (fun h => N q (up q (List.mem_filter.mp h).1)) fun h => nomatch h
  · rcases List.mem_append.mp hq with hq | hq
    · exact hap p hp q hq
    · exact nomatch hq
  · intro i o e g
    match i, e with
    | 0, e => cases e; exact ⟨D1, _, rfl, List.mem_cons_self, xs1, k1, rfl, L1⟩
    | 1, e => cases e; exact ⟨D2, _, rfl, List.mem_cons_of_mem _ List.mem_cons_self, xs2, k2, rfl, L2⟩
    | 2, e => cases e; exact ⟨a1, _, rfl, List.mem_cons_of_mem _ (List.mem_cons_of_mem _ List.mem_cons_self), .ref D1, d1, D1, rfl, rfl⟩
    | 3, e => cases e; exact ⟨a2, _, rfl, List.mem_cons_of_mem _ (List.mem_cons_of_mem _ (List.mem_cons_of_mem _ List.mem_cons_self)), .ref D2, d2, D2, rfl, rfl⟩
    | _ + 4, e => cases e
  · intro i j a oi oj _ _ _ _ h1 h2
    exact nodup_at nd h1 h2
  · intro x v e
    replace e : (bif strEq x (Str.ofString "count") then some (SV.int (ms1.length : Nat)) else bif strEq x (Str.ofString "first") then some (.tup (kerS 0 (oneM ms1.length))) else bif strEq x (Str.ofString "second") then some (.tup (kerS 0 (othM ms1.length))) else none) = some v := e
    cases q : strEq x (Str.ofString "count") with
    | true => rw [q] at e; cases e; exact ⟨_, by rw [strEq_iff.mp q]; exact e1, t, rfl⟩
    | false =>
      rw [q, cond_false] at e
      cases q : strEq x (Str.ofString "first") with
      | true => rw [q] at e; cases e; exact ⟨_, by rw [strEq_iff.mp q]; exact e2, T1⟩
      | false =>
        rw [q, cond_false] at e
        cases q : strEq x (Str.ofString "second") with
        | true => rw [q] at e; cases e; exact ⟨_, by rw [strEq_iff.mp q]; exact e3, T2⟩
        | false => rw [q] at e; cases e
theorem front_fin {w : World} {ss : List Stmt} {E : Value → Shared → Prop} {A : Around} {h₀ : Heap} {L : Addr} {env : Env} {s : Shared} {m : Str → Option Value} {rest : List (Addr × Obj)} {D1 D2 a1 a2 : Addr} {oN oO : Obj} {r1 r2 : Value} {t : Tok} {ms1 ms2 : List Nat} {Q : Flow → Shared → Prop}
    (hss : (bodyOf (K0 w.params) 331).drop 6 = ss) (C : CxOk (K0 w.params) VH loose ⟨A, h₀, L, env, []⟩ 20) (hn : env.scope.names = namesOf (K0 w.params) 331) (hk : env.scope.kind = .function) (hgl : env.globals = mainGlobals) (hbl : env.builtins = builtinsNs) (c1 : env.cells.lookup (Str.ofString "one") = some a1) (c2 : env.cells.lookup (Str.ofString "other") = some a2)
    (F : Fr h₀ L s.heap m) (N : News h₀ L s.heap ((a2, oO) :: (a1, oN) :: rest)) (h12 : a1 ≠ a2) (hD : D1 ≠ D2) (d1 : oN.data = .cell (some (.ref D1))) (d2 : oO.data = .cell (some (.ref D2))) (e1 : m (Str.ofString "count") = some (.int (ms1.length : Nat) t)) (e2 : m (Str.ofString "first") = some r1) (e3 : m (Str.ofString "second") = some r2)
    (V1 : SetsAt (byT w) rest (.ref D1) ms1) (V2 : SetsAt (byT w) rest (.ref D2) ms2) (K1 : KerAt rest r1 (kerOf ms1)) (K2 : KerAt rest r2 (kerOf ms2)) (hl : ms2.length = ms1.length) (n1 : 1 ≤ ms1.length) (n4 : ms1.length ≤ 4)
    (ret : ∀ h' tk m', Fr h₀ L h' m' → Q (.ret (.bool true)) { s with heap := h', toks := tk }) : wpAny (model PySem.Challenge.rw_pq0572_01.row.prog w) A (execs ss env) Q E s :=
  hss ▸ wpAny_mono (front_ok C hn hk hgl hbl c1 c2 F N h12 hD d1 d2 e1 e2 e3 V1 V2 K1 K2 hl n1 n4 ret) (fun _ _ q => q) fun _ _ e => e.elim
end Mine
end
section
open PySem PySem.W PyProof.Rows
open Mine
local macro_rules | `(tactic| k_lt $h:ident) => `(tactic| (replace $h := ltAll_of $h; (try simp only [List.map_cons, List.map_nil, List.map_append] at $h:ident)))
local macro_rules | `(tactic| k_ne) => `(tactic| (refine neN ?_; (try dsimp only); first | exact ne_lt (by with_reducible assumption) (by k_mem) | exact ne_gt (by with_reducible assumption) (by k_mem) | exact ne_all (by with_reducible assumption) (by k_mem) | exact Ne.symm (ne_all (by with_reducible assumption) (by k_mem)) | omega))
local macro_rules | `(tactic| lcg_off) => `(tactic| first | with_reducible assumption | exact True.intro | (refine And.intro ⟨by k_ne, by k_ne, by k_ne⟩ ?_; lcg_off))
local macro_rules | `(tactic| walk_at "FinA") => `(tactic| ((unfold LCg.FinA); intro D' h' tk' F' N' o1'; replace o1' := neAll_of o1'; (try simp only [List.map_cons, List.map_nil, List.map_append] at o1'); (try simp only [List.nil_append, List.cons_append] at N'); (try dsimp only)))
section
namespace Mine
section
variable {w : World} {dp un : Nat} {gd : Option (List Code)} {cn : Str} {cs : Scope} {a : Addr} {ccd : Value} {cl : List (Str × Addr)} {outer : List Env} {A₀ : Around} {base h₀ : Heap} {L : Addr} {m : Str → Option Value} {news : List (Addr × Obj)} {s : Shared}
  {mean : ExcName → Option Value} {mg mb : Str → Option Value} {Q E : Value → Shared → Prop}
theorem box_spec {sl : Addr} {vs : List Value} {ns : List Int}
    (X : (KH w.params).In h₀) (B : Below A₀ base outer h₀) (F : Fr h₀ L s.heap m) (T : Top VH loose mean mg mb h₀) (hk : cs.kind = .function)
    (hdp : dp + 10 < recursionLimit) (hun : un + 80 < cLine)
    (N : News h₀ L s.heap news) (hl : base.IsList sl vs.toArray) (hI : IntsAre vs ns) (hz : ns.length ≤ 63)
    (ret : ∀ h' tk' pl cl' gr st tg ts tp k ck cits ns', Fr h₀ L h' m → News h₀ L h' ((pl, W.listOf #[.ref cl', .int gr tg, .int st ts, .int 0 tp] k) :: (cl', W.listOf cits ck) :: news) → Apart' [(pl, W.listOf #[.ref cl', .int gr tg, .int st ts, .int 0 tp] k), (cl', W.listOf cits ck)] news → cl' < pl → IntsAre cits.toList ns' → cits.size ≤ 63 → 0 ≤ gr → gr < 10 ^ 200 → 0 ≤ st → st < 2147483647 → Q (.ref pl) { s with heap := h', toks := tk' }) :
    wpAny (model PySem.Challenge.rw_pq0572_01.row.prog w) (ktrTop dp un gd cn cs L a ccd cl outer) (call (.ref 295) [.ref sl]) Q E s := by
  revert X; k_fill; intro X
  refine wpAny_call ?_
  have NA := N
  clear N
  have ⟨NA9, hNA9⟩ : ∃ P, P = News h₀ L s.heap news := ⟨_, rfl⟩
  rw [← hNA9] at NA
  have N0 : News h₀ L s.heap [] := News.nil
  k_dflt (((refine' enterE ?zq49_k1 ?zq49_k2 ?zq49_k3 ?zq49_k4 ?zq49_k5 ?zq49_kA ?zq49_kF ?zq49_kK ?zq49_k6 ?zq49_k7 ?zq49_k8 ?zq49_k9 ?zq49_kB ?_ ?zq49_c2 ?zq49_c3 ?zq49_c4 ?zq49_c5; (case zq49_kA => exact rfl); (case zq49_kF => exact rfl); (case zq49_kK => assumption); (case zq49_k1 => k_asm); (case zq49_k2 => k_asm); (case zq49_k3 => k_asm); (case zq49_k4 => k_asm); (case zq49_k5 => k_asm); (case zq49_k6 => k_is); (case zq49_k7 => k_is); (case zq49_k8 => ktr_room); (case zq49_k9 => first | exact BindsTo.of_eq rfl | exact binds_K (by k_in) rfl (by k_is) rfl rfl rfl); (case zq49_c5 => decide); (case zq49_kB => exact locs rfl); (case zq49_c2 => exact rfl); (case zq49_c3 => exact rfl); (case zq49_c4 => exact rfl); k_whole)))
  intro g1 L1 h1 FG F1 N1 B1 X1 T1 l1 G1
  k_lift B1
  (try dsimp only); (try k_fold)
  (repeat' (first | (k_unfold; (try dsimp only)) | ((with_reducible show wpAny _ _ (pyIter (Value.ref _)) _ _ _); (k_state (fun pre st => 0 ≤ st ∧ st < 2147483647) "state")) | ((with_reducible show wpAny _ _ (exec (Stmt.Assign (_ :: _) (Expr.ListComp _ _ _ _) _) _) _ _ _); with_reducible ((k_here; with_reducible refine plainObj_wpAny_Assign_Attribute ?_ ?_; rotate_left; with_unfolding_all rfl))) | ((with_reducible show wpAny _ _ (newList _) _ _ _); with_reducible ((k_here; k_dflt (refine' newList_K ?zq71_k1 ?zq71_k2 ?_; (case zq71_k1 => k_asm); (case zq71_k2 => k_asm); k_whole); intro lq_z hq_z Fq_z Nq_z l1_z; (try k_lt l1_z); (try k_sweep)))) | with_reducible (lcg_end) | ((with_reducible show LCg.CompSrc _ _ _ _ _ _ _ _ _ _ _ _ _ _); ((k_here; k_dflt (first | (refine LCg.CompSrc.ledger (by rfl) (by k_asm) (by k_asm) (by k_mem) (by exact Nat.le_of_ble_eq_true rfl) ?_; intro gq_z; lcg_lit) | (refine LCg.CompSrc.range (by rfl) (by k_asm) (by k_asm) (by assumption) (by first | decide | rfl) (by first | rfl | decide) (by exact Nat.le_of_ble_eq_true rfl) ?_; intro gq_z; lcg_lit))))) | walk1 | (dsimp only; first | ((with_reducible show wpAny _ _ (pyIter (Value.ref _)) _ _ _); (k_state (fun pre st => 0 ≤ st ∧ st < 2147483647) "state")) | ((with_reducible show wpAny _ _ (exec (Stmt.Assign (_ :: _) (Expr.ListComp _ _ _ _) _) _) _ _ _); with_reducible ((k_here; with_reducible refine plainObj_wpAny_Assign_Attribute ?_ ?_; rotate_left; with_unfolding_all rfl))) | ((with_reducible show wpAny _ _ (newList _) _ _ _); with_reducible ((k_here; k_dflt (refine' newList_K ?zq71_k1 ?zq71_k2 ?_; (case zq71_k1 => k_asm); (case zq71_k2 => k_asm); k_whole); intro lq_z hq_z Fq_z Nq_z l1_z; (try k_lt l1_z); (try k_sweep)))) | with_reducible (lcg_end) | ((with_reducible show LCg.CompSrc _ _ _ _ _ _ _ _ _ _ _ _ _ _); ((k_here; k_dflt (first | (refine LCg.CompSrc.ledger (by rfl) (by k_asm) (by k_asm) (by k_mem) (by exact Nat.le_of_ble_eq_true rfl) ?_; intro gq_z; lcg_lit) | (refine LCg.CompSrc.range (by rfl) (by k_asm) (by k_asm) (by assumption) (by first | decide | rfl) (by first | rfl | decide) (by exact Nat.le_of_ble_eq_true rfl) ?_; intro gq_z; lcg_lit))))) | walk1)))
  all_goals (rename News h₀ L _ _ => kN9)
  all_goals (rename News g1 _ _ _ => kN8)
  all_goals (rename Fr g1 _ _ _ => kF8)
  all_goals (subst hNA9)
  all_goals (rename IntsAre _ (List.map _ _) => hI9)
  all_goals (have hy9 := hI9.length)
  all_goals (rename LtAll _ [_, _] => l9)
  all_goals (refine ret _ _ _ _ _ _ _ _ _ _ _ _ _ (by assumption) (news_back (new := [(_, W.listOf #[_, _, _, _] _), (_, _)]) G1 NA kF8 (News.sub kN9 (List.forall_mem_cons.mpr ⟨List.mem_cons_self, List.forall_mem_cons.mpr ⟨List.mem_cons_of_mem _ List.mem_cons_self, List.forall_mem_nil _⟩⟩)) (fun p hp => hp) (fun p _ => List.not_mem_nil)) (apart_back G1 NA (News.sub kN8 (List.forall_mem_cons.mpr ⟨List.mem_cons_self, List.forall_mem_cons.mpr ⟨List.mem_cons_of_mem _ List.mem_cons_self, List.forall_mem_nil _⟩⟩)) (fun p hp => hp) (fun p _ => List.not_mem_nil)) (l9 _ List.mem_cons_self) hI9 ?_ ?_ ?_ (by assumption) (by assumption))
  all_goals first
    | (simp only [List.length_map, List.length_take] at hy9; simp only [List.size_toArray]; omega)
    | decide
    | exact Int.fmod_nonneg_of_pos _ (by decide +kernel)
    | exact Int.fmod_lt_of_pos _ (by decide +kernel)
end
end Mine
end
local macro_rules | `(tactic| k_all) => `(tactic| first | exact disR_at (by with_reducible assumption) (by k_mem) | (intro p9 hp9; first | exact ne_lt (by with_reducible assumption) (by walk_at "M memT") | exact ne_all (by with_reducible assumption) (by walk_at "M memT")))
local macro_rules | `(tactic| walk_at "M memR") => `(tactic| first | assumption | exact List.mem_cons_self | (refine List.mem_cons_of_mem _ ?_; walk_at "M memR") | (refine List.mem_append_right _ ?_; walk_at "M memR"))
section
namespace Mine
section
variable {w : World} {dp un : Nat} {gd : Option (List Code)} {cn : Str} {cs : Scope} {a : Addr} {ccd : Value} {cl : List (Str × Addr)} {outer : List Env} {A₀ : Around} {base h₀ : Heap} {L : Addr} {m : Str → Option Value} {news : List (Addr × Obj)} {s : Shared}
  {mean : ExcName → Option Value} {mg mb : Str → Option Value} {Q E : Value → Shared → Prop}
theorem draw_spec {pl cl' : Addr} {g st p mo : Int} {tg ts tp tm : Tok} {k ck : Nat} {cits : Array Value} {ns : List Int} {led : List (Addr × Obj)}
    (X : (KH w.params).In h₀) (B : Below A₀ base outer h₀) (F : Fr h₀ L s.heap m) (T : Top VH loose mean mg mb h₀) (hk : cs.kind = .function)
    (hdp : dp + 10 < recursionLimit) (hun : un + 80 < cLine)
    (N : News h₀ L s.heap ((pl, W.listOf #[.ref cl', .int g tg, .int st ts, .int p tp] k) :: led)) (hc : (cl', W.listOf cits ck) ∈ led) (hR : DisR [pl] led) (hI : IntsAre cits.toList ns) (hcz : cits.size ≤ 63)
    (hg : 0 ≤ g) (hg2 : g < 10 ^ 200) (hs1 : 0 ≤ st) (hs2 : st < 2147483647) (hp1 : 0 ≤ p) (hp2 : p ≤ 1000) (hm1 : 1 ≤ mo) (hm2 : mo ≤ 4)
    (ret : ∀ h' tk' g' st' t1 t2 t3 k' d td, Fr h₀ L h' m → News h₀ L h' ((pl, W.listOf #[.ref cl', .int g' t1, .int st' t2, .int (p + 1) t3] k') :: led) → 0 ≤ g' → g' < 10 ^ 200 → 0 ≤ st' → st' < 2147483647 → 0 ≤ d → d < mo → Q (.int d td) { s with heap := h', toks := tk' }) :
    wpAny (model PySem.Challenge.rw_pq0572_01.row.prog w) (ktrTop dp un gd cn cs L a ccd cl outer) (call (.ref 302) [.ref pl, .int mo tm]) Q E s := by
  revert X; k_fill; intro X
  refine wpAny_call ?_
  k_dflt ktr_enter
  (repeat' (first | (k_unfold; (try dsimp only)) | ((fail_if_success (with_reducible show wpAny _ _ (pyIter _) _ _ _)); (fail_if_success (with_reducible show wpAny _ _ (call (Value.ref 153) _) _ _ _)); (fail_if_success (with_reducible show wpAny _ _ (call (Value.ref 158) _) _ _ _)); (fail_if_success (with_reducible show wpAny _ _ (call (Value.ref 127) _) _ _ _)); (fail_if_success (with_reducible show wpAny _ _ (call (Value.ref 132) _) _ _ _)); first | with_reducible ((k_here; (with_reducible show wpAny _ _ (subscriptTail _ _ (Value.ref _) (Value.int _ _)) _ _ _); (with_unfolding_all refine' itemL_N ?zq74_N ?zq74_m ?zq74_lo ?zq74_hi ?zq74_hx ?_ ?zq74_hs; (case zq74_N => k_asm); (case zq74_m => k_mem); (case zq74_lo => decide); (case zq74_hi => decide); (case zq74_hx => assumption); (case zq74_hs => with_unfolding_all rfl); k_whole))) | with_reducible ((k_here; (with_reducible show wpAny _ _ (subscriptTail _ _ (Value.ref _) (Value.int 0 _)) _ _ _); (with_unfolding_all refine' item0_N ?zq75_N ?zq75_m ?zq75_s0 ?_ ?zq75_hs; (case zq75_N => assumption); (case zq75_m => assumption); (case zq75_s0 => ((intro p hp; repeat (first | exact hp | refine List.mem_cons_of_mem _ ?_)))); (case zq75_hs => with_unfolding_all rfl); k_whole))) | with_reducible ((k_here; (with_reducible show wpAny _ _ (call (Value.builtin "len") [Value.ref _]) _ _ _); k_dflt (refine' len_N2 ?zq76_N ?zq76_m ?zq76_z ?_; (case zq76_N => k_asm); (case zq76_m => k_mem); (case zq76_z => omega); k_whole))) | walk1 | (dsimp only; first | with_reducible ((k_here; (with_reducible show wpAny _ _ (subscriptTail _ _ (Value.ref _) (Value.int _ _)) _ _ _); (with_unfolding_all refine' itemL_N ?zq74_N ?zq74_m ?zq74_lo ?zq74_hi ?zq74_hx ?_ ?zq74_hs; (case zq74_N => k_asm); (case zq74_m => k_mem); (case zq74_lo => decide); (case zq74_hi => decide); (case zq74_hx => assumption); (case zq74_hs => with_unfolding_all rfl); k_whole))) | with_reducible ((k_here; (with_reducible show wpAny _ _ (subscriptTail _ _ (Value.ref _) (Value.int 0 _)) _ _ _); (with_unfolding_all refine' item0_N ?zq75_N ?zq75_m ?zq75_s0 ?_ ?zq75_hs; (case zq75_N => assumption); (case zq75_m => assumption); (case zq75_s0 => ((intro p hp; repeat (first | exact hp | refine List.mem_cons_of_mem _ ?_)))); (case zq75_hs => with_unfolding_all rfl); k_whole))) | with_reducible ((k_here; (with_reducible show wpAny _ _ (call (Value.builtin "len") [Value.ref _]) _ _ _); k_dflt (refine' len_N2 ?zq76_N ?zq76_m ?zq76_z ?_; (case zq76_N => k_asm); (case zq76_m => k_mem); (case zq76_z => omega); k_whole))) | walk1))))
  · have f0 := Int.fmod_eq_emod_of_nonneg g (show 0 ≤ mo by omega)
    have f1 := Int.emod_nonneg g (show mo ≠ 0 by omega)
    have f2 := Int.emod_lt_of_pos g (show 0 < mo by omega)
    have f3 : g.fdiv mo = g / mo := Int.fdiv_eq_ediv_of_nonneg g (by omega)
    have f4 : 0 ≤ g / mo := Int.ediv_nonneg hg (by omega)
    have f5 : g / mo ≤ g := Int.ediv_le_self mo hg
    rw [← f3] at f4 f5
    rw [← f0] at f1 f2
    exact ret _ _ _ _ _ _ _ _ _ _ (by assumption) (by assumption) f4 (Int.lt_of_le_of_lt f5 hg2) hs1 hs2 f1 f2
  · k_dflt (refine' len_N2 ?N ?m ?z ?_; (case N => k_asm); (case m => exact List.mem_cons_of_mem _ hc); (case z => omega))
    have s1 := Int.emod_nonneg (st * 16807 + p * p + 5) (show (2147483647 : Int) ≠ 0 by decide)
    have s2 := Int.emod_lt_of_pos (st * 16807 + p * p + 5) (show (0 : Int) < 2147483647 by decide)
    rw [← Int.fmod_eq_emod_of_nonneg _ (show (0 : Int) ≤ 2147483647 by decide)] at s1 s2
    (repeat' (first | (k_unfold; (try dsimp only)) | ((fail_if_success (with_reducible show wpAny _ _ (pyIter _) _ _ _)); (fail_if_success (with_reducible show wpAny _ _ (call (Value.ref 153) _) _ _ _)); (fail_if_success (with_reducible show wpAny _ _ (call (Value.ref 158) _) _ _ _)); (fail_if_success (with_reducible show wpAny _ _ (call (Value.ref 127) _) _ _ _)); (fail_if_success (with_reducible show wpAny _ _ (call (Value.ref 132) _) _ _ _)); first | with_reducible ((k_here; (with_reducible show wpAny _ _ (subscriptTail _ _ (Value.ref _) (Value.int _ _)) _ _ _); (with_unfolding_all refine' itemL_N ?zq74_N ?zq74_m ?zq74_lo ?zq74_hi ?zq74_hx ?_ ?zq74_hs; (case zq74_N => k_asm); (case zq74_m => k_mem); (case zq74_lo => decide); (case zq74_hi => decide); (case zq74_hx => assumption); (case zq74_hs => with_unfolding_all rfl); k_whole))) | with_reducible ((k_here; (with_reducible show wpAny _ _ (subscriptTail _ _ (Value.ref _) (Value.int 0 _)) _ _ _); (with_unfolding_all refine' item0_N ?zq75_N ?zq75_m ?zq75_s0 ?_ ?zq75_hs; (case zq75_N => assumption); (case zq75_m => assumption); (case zq75_s0 => ((intro p hp; repeat (first | exact hp | refine List.mem_cons_of_mem _ ?_)))); (case zq75_hs => with_unfolding_all rfl); k_whole))) | with_reducible ((k_here; (with_reducible show wpAny _ _ (call (Value.builtin "len") [Value.ref _]) _ _ _); k_dflt (refine' len_N2 ?zq76_N ?zq76_m ?zq76_z ?_; (case zq76_N => k_asm); (case zq76_m => k_mem); (case zq76_z => omega); k_whole))) | walk1 | (dsimp only; first | with_reducible ((k_here; (with_reducible show wpAny _ _ (subscriptTail _ _ (Value.ref _) (Value.int _ _)) _ _ _); (with_unfolding_all refine' itemL_N ?zq74_N ?zq74_m ?zq74_lo ?zq74_hi ?zq74_hx ?_ ?zq74_hs; (case zq74_N => k_asm); (case zq74_m => k_mem); (case zq74_lo => decide); (case zq74_hi => decide); (case zq74_hx => assumption); (case zq74_hs => with_unfolding_all rfl); k_whole))) | with_reducible ((k_here; (with_reducible show wpAny _ _ (subscriptTail _ _ (Value.ref _) (Value.int 0 _)) _ _ _); (with_unfolding_all refine' item0_N ?zq75_N ?zq75_m ?zq75_s0 ?_ ?zq75_hs; (case zq75_N => assumption); (case zq75_m => assumption); (case zq75_s0 => ((intro p hp; repeat (first | exact hp | refine List.mem_cons_of_mem _ ?_)))); (case zq75_hs => with_unfolding_all rfl); k_whole))) | with_reducible ((k_here; (with_reducible show wpAny _ _ (call (Value.builtin "len") [Value.ref _]) _ _ _); k_dflt (refine' len_N2 ?zq76_N ?zq76_m ?zq76_z ?_; (case zq76_N => k_asm); (case zq76_m => k_mem); (case zq76_z => omega); k_whole))) | walk1))))
    · have hlt : p.toNat < cits.size := by omega
      have e1 := List.getElem?_eq_getElem (show p.toNat < cits.toList.length by simpa using hlt)
      obtain ⟨cn', ct, ev, -⟩ := hI.at p.toNat _ e1
      have hx : cits[p.toNat]? = some (.int cn' ct) := by rw [← Array.getElem?_toList, e1, ev]
      (with_unfolding_all refine' itemL_N ?N ?m ?lo ?hi hx ?_ ?hs; (case N => k_asm); (case m => exact List.mem_cons_of_mem _ hc); (case lo => omega); (case hi => omega); (case hs => with_unfolding_all rfl))
      (repeat' (first | (k_unfold; (try dsimp only)) | ((fail_if_success (with_reducible show wpAny _ _ (pyIter _) _ _ _)); (fail_if_success (with_reducible show wpAny _ _ (call (Value.ref 153) _) _ _ _)); (fail_if_success (with_reducible show wpAny _ _ (call (Value.ref 158) _) _ _ _)); (fail_if_success (with_reducible show wpAny _ _ (call (Value.ref 127) _) _ _ _)); (fail_if_success (with_reducible show wpAny _ _ (call (Value.ref 132) _) _ _ _)); first | with_reducible ((k_here; (with_reducible show wpAny _ _ (subscriptTail _ _ (Value.ref _) (Value.int _ _)) _ _ _); (with_unfolding_all refine' itemL_N ?zq74_N ?zq74_m ?zq74_lo ?zq74_hi ?zq74_hx ?_ ?zq74_hs; (case zq74_N => k_asm); (case zq74_m => k_mem); (case zq74_lo => decide); (case zq74_hi => decide); (case zq74_hx => assumption); (case zq74_hs => with_unfolding_all rfl); k_whole))) | with_reducible ((k_here; (with_reducible show wpAny _ _ (subscriptTail _ _ (Value.ref _) (Value.int 0 _)) _ _ _); (with_unfolding_all refine' item0_N ?zq75_N ?zq75_m ?zq75_s0 ?_ ?zq75_hs; (case zq75_N => assumption); (case zq75_m => assumption); (case zq75_s0 => ((intro p hp; repeat (first | exact hp | refine List.mem_cons_of_mem _ ?_)))); (case zq75_hs => with_unfolding_all rfl); k_whole))) | with_reducible ((k_here; (with_reducible show wpAny _ _ (call (Value.builtin "len") [Value.ref _]) _ _ _); k_dflt (refine' len_N2 ?zq76_N ?zq76_m ?zq76_z ?_; (case zq76_N => k_asm); (case zq76_m => k_mem); (case zq76_z => omega); k_whole))) | walk1 | (dsimp only; first | with_reducible ((k_here; (with_reducible show wpAny _ _ (subscriptTail _ _ (Value.ref _) (Value.int _ _)) _ _ _); (with_unfolding_all refine' itemL_N ?zq74_N ?zq74_m ?zq74_lo ?zq74_hi ?zq74_hx ?_ ?zq74_hs; (case zq74_N => k_asm); (case zq74_m => k_mem); (case zq74_lo => decide); (case zq74_hi => decide); (case zq74_hx => assumption); (case zq74_hs => with_unfolding_all rfl); k_whole))) | with_reducible ((k_here; (with_reducible show wpAny _ _ (subscriptTail _ _ (Value.ref _) (Value.int 0 _)) _ _ _); (with_unfolding_all refine' item0_N ?zq75_N ?zq75_m ?zq75_s0 ?_ ?zq75_hs; (case zq75_N => assumption); (case zq75_m => assumption); (case zq75_s0 => ((intro p hp; repeat (first | exact hp | refine List.mem_cons_of_mem _ ?_)))); (case zq75_hs => with_unfolding_all rfl); k_whole))) | with_reducible ((k_here; (with_reducible show wpAny _ _ (call (Value.builtin "len") [Value.ref _]) _ _ _); k_dflt (refine' len_N2 ?zq76_N ?zq76_m ?zq76_z ?_; (case zq76_N => k_asm); (case zq76_m => k_mem); (case zq76_z => omega); k_whole))) | walk1))))
      have f1 := Int.emod_nonneg cn' (show mo ≠ 0 by omega)
      have f2 := Int.emod_lt_of_pos cn' (show 0 < mo by omega)
      rw [← Int.fmod_eq_emod_of_nonneg _ (show 0 ≤ mo by omega)] at f1 f2
      exact ret _ _ _ _ _ _ _ _ _ _ (by assumption) (by assumption) hg hg2 s1 s2 f1 f2
    · have f1 := Int.emod_nonneg (((st * 16807 + p * p + 5).fmod 2147483647).fdiv 5) (show mo ≠ 0 by omega)
      have f2 := Int.emod_lt_of_pos (((st * 16807 + p * p + 5).fmod 2147483647).fdiv 5) (show 0 < mo by omega)
      rw [← Int.fmod_eq_emod_of_nonneg _ (show 0 ≤ mo by omega)] at f1 f2
      exact ret _ _ _ _ _ _ _ _ _ _ (by assumption) (by assumption) hg hg2 s1 s2 f1 f2
end
end Mine
end
local macro_rules | `(tactic| walk_at "K go") => `(tactic| (intro w s₀ s₁ mg mb G Y fa o pm cd doc dV kV ho hd hcd hD hmg hg args vals as hpre hlay hrd hwl hlo
                                                            have KX := kIn_of Y
                                                            refine Ground.open G ?_
                                                            intro T B D TE TW
                                                            refine guard_noD D (by decide +kernel) ?_
                                                            clear D
                                                            clear hmg
                                                            wrow_args hpre hlay hrd hwl hlo
                                                            refine enter_call ?_
                                                            w_top on
                                                            try refine codeAny_mono ?_ (fun _ _ g => GoodW.toG g)
                                                            have K0 := below_caller (Top.heap T)
                                                            w_call any ho hd hcd hD T F
                                                            clear hd
                                                            k_drop))
theorem PySem.Challenge.cw_pq0572_01_holds : PySem.Challenge.rw_pq0572_01.Holds := by
  refine holds_law t1 fun said => ?_
  refine holds_open (q := VH) (loose := loose0) (Xt := fun s => xlAt VH [] s && recOk (RowW.records PySem.Challenge.rw_pq0572_01.row.toRowW) s) (XP := XL VH []) (Yf := Hook.obs (kHook KH asH (fun _ => rfl))) (Ya := Hook.val (kHook KH asH (fun _ => rfl))) (YP := Hook.says (kHook KH asH (fun _ => rfl))) (N := 5000) t2 (Hook.of (kHook KH asH (fun _ => rfl))) (Hook.keeps (kHook KH asH (fun _ => rfl))) (fun s e => xl_of s (Bool.and_eq_true_iff.mp e).1) XL.keeps (by rfl) (by rfl) (by rfl) (fun s e => recFacts_of (Bool.and_eq_true_iff.mp e).2) (by rfl) (by assumption) (by decide +kernel) ⟨rfl, rfl, rfl, rfl, rfl, by decide +kernel⟩ ?zw9 ?zc9
  case zw9 => w_witness2
  clear said
  k_fill
  walk_at "K go"
  all_goals (try k_fold)
  rename_i o1 o2 o3 d1 d2 d3 N0 X0
  replace d1 : o1.data = .cell none := d1.trans rfl
  replace d2 : o2.data = .cell none := d2.trans rfl
  replace d3 : o3.data = .cell none := d3.trans rfl
  (repeat' (first | ((k_unfold; (try dsimp only))) | (((fail_if_success (with_reducible show wpAny _ _ (pyIter _) _ _ _)); (fail_if_success (with_reducible show LCg.CompSrc _ _ _ _ _ _ _ _ _ _ _ _ _ _)); (fail_if_success (with_reducible show LCt.CompSrcT _ _ _ _ _ _ _ _ _ _ _ _ _ _ _)); (fail_if_success (with_reducible show wpAny _ _ (call (Value.ref 295) _) _ _ _)); (fail_if_success (with_reducible show wpAny _ _ (call (Value.ref 302) _) _ _ _)); (fail_if_success (with_reducible show wpAny _ _ (call (Value.ref 321) _) _ _ _)); first | with_reducible ((k_here; (with_reducible show wpAny _ _ (eval (Expr.Name _ _) (compEnvC _ _ _ _)) _ _ _); k_dflt (refine' lcf_cell ?zq63_N ?zq63_c ?zq63_m ?zq63_d ?_ ?zq63_a ?zq63_b; (case zq63_a => rfl); (case zq63_b => rfl); (case zq63_N => k_asm); (case zq63_c => rfl); (case zq63_m => walk_at "M memR"); (case zq63_d => k_asm); k_whole))) | ((with_reducible show wpAny _ _ (eval (Expr.ListComp _ _ _ _) _) _ _ _); with_reducible ((k_here; k_dflt (first   | ((with_reducible show wpAny _ _ (eval (Expr.ListComp _ [⟨Expr.Name _ _, _, [_], _⟩] _ _) _) _ _ _); (refine LCt.ListComp_T (F₀ := by k_asm) (by with_unfolding_all rfl) (by decide) (by rfl) (by decide) (by rfl) ?_))   | ((with_reducible show wpAny _ _ (eval (Expr.ListComp _ [⟨Expr.Name _ _, _, [], _⟩] _ _) _) _ _ _); (refine LCg.ListComp_U (F₀ := by k_asm) (by with_unfolding_all rfl) (by decide) (by rfl) (by decide) (by rfl) ?_)))))) | ((with_reducible show wpAny _ _ (call (Value.type "range") _) _ _ _); with_reducible ((k_here; ((refine' range1_N ?zq65_F ?zq65_N ?_; (case zq65_F => k_asm); (case zq65_N => k_asm); k_whole); intro hq_z r7_z t71_z t73_z tk7_z hR7_z Fq_z Nq_z)))) | ((with_reducible show wpAny _ _ (getMethod (Value.ref _) _ _) _ _ _); with_reducible ((k_here; k_dflt (first   | (refine' homes_meth PySem.F.slot_dict_setdefault PySem.F.type_dict_setdefault ?zq66_N ?zq66_H ?zq66_m ?_; (case zq66_N => k_asm); (case zq66_H => assumption); (case zq66_m => k_mem))   | (refine' homes_meth PySem.F.slot_dict_get PySem.F.type_dict_get ?zq66_N ?zq66_H ?zq66_m ?_; (case zq66_N => k_asm); (case zq66_H => assumption); (case zq66_m => k_mem)))))) | ((with_reducible show wpAny _ _ (call (Value.builtin "list.append") _) _ _ _); with_reducible ((k_here; (with_reducible show wpAny _ _ (call (Value.builtin _) [Value.ref _, _]) _ _ _); k_dflt (refine' append_K ?zq67_k1 ?zq67_k2 ?zq67_k3 ?_ ?zq67_z; (case zq67_k1 => k_asm); (case zq67_k2 => k_asm); (case zq67_k3 => k_upd); (case zq67_z => first | exact Nat.le_of_ble_eq_true rfl | (rw [sizeLine_eq]; omega)); k_whole); intro hq_z Fq_z Nq_z; (try k_sweep)))) | with_reducible (lcg_end) | walk1 | (dsimp only; first | with_reducible ((k_here; (with_reducible show wpAny _ _ (eval (Expr.Name _ _) (compEnvC _ _ _ _)) _ _ _); k_dflt (refine' lcf_cell ?zq63_N ?zq63_c ?zq63_m ?zq63_d ?_ ?zq63_a ?zq63_b; (case zq63_a => rfl); (case zq63_b => rfl); (case zq63_N => k_asm); (case zq63_c => rfl); (case zq63_m => walk_at "M memR"); (case zq63_d => k_asm); k_whole))) | ((with_reducible show wpAny _ _ (eval (Expr.ListComp _ _ _ _) _) _ _ _); with_reducible ((k_here; k_dflt (first   | ((with_reducible show wpAny _ _ (eval (Expr.ListComp _ [⟨Expr.Name _ _, _, [_], _⟩] _ _) _) _ _ _); (refine LCt.ListComp_T (F₀ := by k_asm) (by with_unfolding_all rfl) (by decide) (by rfl) (by decide) (by rfl) ?_))   | ((with_reducible show wpAny _ _ (eval (Expr.ListComp _ [⟨Expr.Name _ _, _, [], _⟩] _ _) _) _ _ _); (refine LCg.ListComp_U (F₀ := by k_asm) (by with_unfolding_all rfl) (by decide) (by rfl) (by decide) (by rfl) ?_)))))) | ((with_reducible show wpAny _ _ (call (Value.type "range") _) _ _ _); with_reducible ((k_here; ((refine' range1_N ?zq65_F ?zq65_N ?_; (case zq65_F => k_asm); (case zq65_N => k_asm); k_whole); intro hq_z r7_z t71_z t73_z tk7_z hR7_z Fq_z Nq_z)))) | ((with_reducible show wpAny _ _ (getMethod (Value.ref _) _ _) _ _ _); with_reducible ((k_here; k_dflt (first   | (refine' homes_meth PySem.F.slot_dict_setdefault PySem.F.type_dict_setdefault ?zq66_N ?zq66_H ?zq66_m ?_; (case zq66_N => k_asm); (case zq66_H => assumption); (case zq66_m => k_mem))   | (refine' homes_meth PySem.F.slot_dict_get PySem.F.type_dict_get ?zq66_N ?zq66_H ?zq66_m ?_; (case zq66_N => k_asm); (case zq66_H => assumption); (case zq66_m => k_mem)))))) | ((with_reducible show wpAny _ _ (call (Value.builtin "list.append") _) _ _ _); with_reducible ((k_here; (with_reducible show wpAny _ _ (call (Value.builtin _) [Value.ref _, _]) _ _ _); k_dflt (refine' append_K ?zq67_k1 ?zq67_k2 ?zq67_k3 ?_ ?zq67_z; (case zq67_k1 => k_asm); (case zq67_k2 => k_asm); (case zq67_k3 => k_upd); (case zq67_z => first | exact Nat.le_of_ble_eq_true rfl | (rw [sizeLine_eq]; omega)); k_whole); intro hq_z Fq_z Nq_z; (try k_sweep)))) | with_reducible (lcg_end) | walk1)))))
  k_dflt (refine' box_spec ?X ?B ?F ?T ?hk ?hdp ?hun ?N ?hl ?hI ?hz ?_; (case X => k_asm); (case B => k_asm); (case F => k_asm); (case T => k_asm); (case N => k_asm); (case hk => rfl); (case hdp => decide); (case hun => decide); (case hl => k_asm); (case hI => k_asm); (case hz => omega))
  intro h5 tk5 pl cl gr5 st5 tg5 ts5 tp5 k5 ck cits ns5 F5 N5 A5 lt5 I5 z5 g51 g52 s51 s52
  have D5 := law_dis A5 lt5
  clear A5 lt5
  obtain ⟨e1, e2, e3, e4, e5, -⟩ := id D5
  (repeat' (first | ((k_unfold; (try dsimp only))) | (((fail_if_success (with_reducible show wpAny _ _ (pyIter _) _ _ _)); (fail_if_success (with_reducible show LCg.CompSrc _ _ _ _ _ _ _ _ _ _ _ _ _ _)); (fail_if_success (with_reducible show LCt.CompSrcT _ _ _ _ _ _ _ _ _ _ _ _ _ _ _)); (fail_if_success (with_reducible show wpAny _ _ (call (Value.ref 295) _) _ _ _)); (fail_if_success (with_reducible show wpAny _ _ (call (Value.ref 302) _) _ _ _)); (fail_if_success (with_reducible show wpAny _ _ (call (Value.ref 321) _) _ _ _)); first | with_reducible ((k_here; (with_reducible show wpAny _ _ (eval (Expr.Name _ _) (compEnvC _ _ _ _)) _ _ _); k_dflt (refine' lcf_cell ?zq63_N ?zq63_c ?zq63_m ?zq63_d ?_ ?zq63_a ?zq63_b; (case zq63_a => rfl); (case zq63_b => rfl); (case zq63_N => k_asm); (case zq63_c => rfl); (case zq63_m => walk_at "M memR"); (case zq63_d => k_asm); k_whole))) | ((with_reducible show wpAny _ _ (eval (Expr.ListComp _ _ _ _) _) _ _ _); with_reducible ((k_here; k_dflt (first   | ((with_reducible show wpAny _ _ (eval (Expr.ListComp _ [⟨Expr.Name _ _, _, [_], _⟩] _ _) _) _ _ _); (refine LCt.ListComp_T (F₀ := by k_asm) (by with_unfolding_all rfl) (by decide) (by rfl) (by decide) (by rfl) ?_))   | ((with_reducible show wpAny _ _ (eval (Expr.ListComp _ [⟨Expr.Name _ _, _, [], _⟩] _ _) _) _ _ _); (refine LCg.ListComp_U (F₀ := by k_asm) (by with_unfolding_all rfl) (by decide) (by rfl) (by decide) (by rfl) ?_)))))) | ((with_reducible show wpAny _ _ (call (Value.type "range") _) _ _ _); with_reducible ((k_here; ((refine' range1_N ?zq65_F ?zq65_N ?_; (case zq65_F => k_asm); (case zq65_N => k_asm); k_whole); intro hq_z r7_z t71_z t73_z tk7_z hR7_z Fq_z Nq_z)))) | ((with_reducible show wpAny _ _ (getMethod (Value.ref _) _ _) _ _ _); with_reducible ((k_here; k_dflt (first   | (refine' homes_meth PySem.F.slot_dict_setdefault PySem.F.type_dict_setdefault ?zq66_N ?zq66_H ?zq66_m ?_; (case zq66_N => k_asm); (case zq66_H => assumption); (case zq66_m => k_mem))   | (refine' homes_meth PySem.F.slot_dict_get PySem.F.type_dict_get ?zq66_N ?zq66_H ?zq66_m ?_; (case zq66_N => k_asm); (case zq66_H => assumption); (case zq66_m => k_mem)))))) | ((with_reducible show wpAny _ _ (call (Value.builtin "list.append") _) _ _ _); with_reducible ((k_here; (with_reducible show wpAny _ _ (call (Value.builtin _) [Value.ref _, _]) _ _ _); k_dflt (refine' append_K ?zq67_k1 ?zq67_k2 ?zq67_k3 ?_ ?zq67_z; (case zq67_k1 => k_asm); (case zq67_k2 => k_asm); (case zq67_k3 => k_upd); (case zq67_z => first | exact Nat.le_of_ble_eq_true rfl | (rw [sizeLine_eq]; omega)); k_whole); intro hq_z Fq_z Nq_z; (try k_sweep)))) | with_reducible (lcg_end) | walk1 | (dsimp only; first | with_reducible ((k_here; (with_reducible show wpAny _ _ (eval (Expr.Name _ _) (compEnvC _ _ _ _)) _ _ _); k_dflt (refine' lcf_cell ?zq63_N ?zq63_c ?zq63_m ?zq63_d ?_ ?zq63_a ?zq63_b; (case zq63_a => rfl); (case zq63_b => rfl); (case zq63_N => k_asm); (case zq63_c => rfl); (case zq63_m => walk_at "M memR"); (case zq63_d => k_asm); k_whole))) | ((with_reducible show wpAny _ _ (eval (Expr.ListComp _ _ _ _) _) _ _ _); with_reducible ((k_here; k_dflt (first   | ((with_reducible show wpAny _ _ (eval (Expr.ListComp _ [⟨Expr.Name _ _, _, [_], _⟩] _ _) _) _ _ _); (refine LCt.ListComp_T (F₀ := by k_asm) (by with_unfolding_all rfl) (by decide) (by rfl) (by decide) (by rfl) ?_))   | ((with_reducible show wpAny _ _ (eval (Expr.ListComp _ [⟨Expr.Name _ _, _, [], _⟩] _ _) _) _ _ _); (refine LCg.ListComp_U (F₀ := by k_asm) (by with_unfolding_all rfl) (by decide) (by rfl) (by decide) (by rfl) ?_)))))) | ((with_reducible show wpAny _ _ (call (Value.type "range") _) _ _ _); with_reducible ((k_here; ((refine' range1_N ?zq65_F ?zq65_N ?_; (case zq65_F => k_asm); (case zq65_N => k_asm); k_whole); intro hq_z r7_z t71_z t73_z tk7_z hR7_z Fq_z Nq_z)))) | ((with_reducible show wpAny _ _ (getMethod (Value.ref _) _ _) _ _ _); with_reducible ((k_here; k_dflt (first   | (refine' homes_meth PySem.F.slot_dict_setdefault PySem.F.type_dict_setdefault ?zq66_N ?zq66_H ?zq66_m ?_; (case zq66_N => k_asm); (case zq66_H => assumption); (case zq66_m => k_mem))   | (refine' homes_meth PySem.F.slot_dict_get PySem.F.type_dict_get ?zq66_N ?zq66_H ?zq66_m ?_; (case zq66_N => k_asm); (case zq66_H => assumption); (case zq66_m => k_mem)))))) | ((with_reducible show wpAny _ _ (call (Value.builtin "list.append") _) _ _ _); with_reducible ((k_here; (with_reducible show wpAny _ _ (call (Value.builtin _) [Value.ref _, _]) _ _ _); k_dflt (refine' append_K ?zq67_k1 ?zq67_k2 ?zq67_k3 ?_ ?zq67_z; (case zq67_k1 => k_asm); (case zq67_k2 => k_asm); (case zq67_k3 => k_upd); (case zq67_z => first | exact Nat.le_of_ble_eq_true rfl | (rw [sizeLine_eq]; omega)); k_whole); intro hq_z Fq_z Nq_z; (try k_sweep)))) | with_reducible (lcg_end) | walk1)))))
  rename News _ _ _ _ => N6
  k_dflt (refine' draw_spec ?X ?B ?F ?T ?hk ?hdp ?hun ?N ?hc ?hR I5 z5 g51 g52 s51 s52 ?p1 ?p2 ?m1 ?m2 ?_; (case X => k_asm); (case B => k_asm); (case F => k_asm); (case T => k_asm); (case N => k_asm); (case hk => rfl); (case hdp => decide); (case hun => decide); (case hc => k_mem); (case hR => exact disR_of_neAll e1); (case p1 => decide); (case p2 => decide); (case m1 => decide); (case m2 => decide))
  intro h7 tk7 gr7 st7 t1 t2 t3 k7 d7 td7 F7 N7 g71 g72 s71 s72 dr1 dr2
  obtain ⟨c, hc⟩ : ∃ c : Nat, 1 + d7 = (c : Int) := ⟨(1 + d7).toNat, by omega⟩
  have hc1 : 1 ≤ c := by omega
  have hc4 : c ≤ 4 := by omega
  (repeat' (first | ((k_unfold; (try dsimp only))) | ((fail_if_success (with_reducible show wpAny _ _ (storeName _ _ _) _ _ _)); (((fail_if_success (with_reducible show wpAny _ _ (pyIter _) _ _ _)); (fail_if_success (with_reducible show LCg.CompSrc _ _ _ _ _ _ _ _ _ _ _ _ _ _)); (fail_if_success (with_reducible show LCt.CompSrcT _ _ _ _ _ _ _ _ _ _ _ _ _ _ _)); (fail_if_success (with_reducible show wpAny _ _ (call (Value.ref 295) _) _ _ _)); (fail_if_success (with_reducible show wpAny _ _ (call (Value.ref 302) _) _ _ _)); (fail_if_success (with_reducible show wpAny _ _ (call (Value.ref 321) _) _ _ _)); first | with_reducible ((k_here; (with_reducible show wpAny _ _ (eval (Expr.Name _ _) (compEnvC _ _ _ _)) _ _ _); k_dflt (refine' lcf_cell ?zq63_N ?zq63_c ?zq63_m ?zq63_d ?_ ?zq63_a ?zq63_b; (case zq63_a => rfl); (case zq63_b => rfl); (case zq63_N => k_asm); (case zq63_c => rfl); (case zq63_m => walk_at "M memR"); (case zq63_d => k_asm); k_whole))) | ((with_reducible show wpAny _ _ (eval (Expr.ListComp _ _ _ _) _) _ _ _); with_reducible ((k_here; k_dflt (first   | ((with_reducible show wpAny _ _ (eval (Expr.ListComp _ [⟨Expr.Name _ _, _, [_], _⟩] _ _) _) _ _ _); (refine LCt.ListComp_T (F₀ := by k_asm) (by with_unfolding_all rfl) (by decide) (by rfl) (by decide) (by rfl) ?_))   | ((with_reducible show wpAny _ _ (eval (Expr.ListComp _ [⟨Expr.Name _ _, _, [], _⟩] _ _) _) _ _ _); (refine LCg.ListComp_U (F₀ := by k_asm) (by with_unfolding_all rfl) (by decide) (by rfl) (by decide) (by rfl) ?_)))))) | ((with_reducible show wpAny _ _ (call (Value.type "range") _) _ _ _); with_reducible ((k_here; ((refine' range1_N ?zq65_F ?zq65_N ?_; (case zq65_F => k_asm); (case zq65_N => k_asm); k_whole); intro hq_z r7_z t71_z t73_z tk7_z hR7_z Fq_z Nq_z)))) | ((with_reducible show wpAny _ _ (getMethod (Value.ref _) _ _) _ _ _); with_reducible ((k_here; k_dflt (first   | (refine' homes_meth PySem.F.slot_dict_setdefault PySem.F.type_dict_setdefault ?zq66_N ?zq66_H ?zq66_m ?_; (case zq66_N => k_asm); (case zq66_H => assumption); (case zq66_m => k_mem))   | (refine' homes_meth PySem.F.slot_dict_get PySem.F.type_dict_get ?zq66_N ?zq66_H ?zq66_m ?_; (case zq66_N => k_asm); (case zq66_H => assumption); (case zq66_m => k_mem)))))) | ((with_reducible show wpAny _ _ (call (Value.builtin "list.append") _) _ _ _); with_reducible ((k_here; (with_reducible show wpAny _ _ (call (Value.builtin _) [Value.ref _, _]) _ _ _); k_dflt (refine' append_K ?zq67_k1 ?zq67_k2 ?zq67_k3 ?_ ?zq67_z; (case zq67_k1 => k_asm); (case zq67_k2 => k_asm); (case zq67_k3 => k_upd); (case zq67_z => first | exact Nat.le_of_ble_eq_true rfl | (rw [sizeLine_eq]; omega)); k_whole); intro hq_z Fq_z Nq_z; (try k_sweep)))) | with_reducible (lcg_end) | walk1 | (dsimp only; first | with_reducible ((k_here; (with_reducible show wpAny _ _ (eval (Expr.Name _ _) (compEnvC _ _ _ _)) _ _ _); k_dflt (refine' lcf_cell ?zq63_N ?zq63_c ?zq63_m ?zq63_d ?_ ?zq63_a ?zq63_b; (case zq63_a => rfl); (case zq63_b => rfl); (case zq63_N => k_asm); (case zq63_c => rfl); (case zq63_m => walk_at "M memR"); (case zq63_d => k_asm); k_whole))) | ((with_reducible show wpAny _ _ (eval (Expr.ListComp _ _ _ _) _) _ _ _); with_reducible ((k_here; k_dflt (first   | ((with_reducible show wpAny _ _ (eval (Expr.ListComp _ [⟨Expr.Name _ _, _, [_], _⟩] _ _) _) _ _ _); (refine LCt.ListComp_T (F₀ := by k_asm) (by with_unfolding_all rfl) (by decide) (by rfl) (by decide) (by rfl) ?_))   | ((with_reducible show wpAny _ _ (eval (Expr.ListComp _ [⟨Expr.Name _ _, _, [], _⟩] _ _) _) _ _ _); (refine LCg.ListComp_U (F₀ := by k_asm) (by with_unfolding_all rfl) (by decide) (by rfl) (by decide) (by rfl) ?_)))))) | ((with_reducible show wpAny _ _ (call (Value.type "range") _) _ _ _); with_reducible ((k_here; ((refine' range1_N ?zq65_F ?zq65_N ?_; (case zq65_F => k_asm); (case zq65_N => k_asm); k_whole); intro hq_z r7_z t71_z t73_z tk7_z hR7_z Fq_z Nq_z)))) | ((with_reducible show wpAny _ _ (getMethod (Value.ref _) _ _) _ _ _); with_reducible ((k_here; k_dflt (first   | (refine' homes_meth PySem.F.slot_dict_setdefault PySem.F.type_dict_setdefault ?zq66_N ?zq66_H ?zq66_m ?_; (case zq66_N => k_asm); (case zq66_H => assumption); (case zq66_m => k_mem))   | (refine' homes_meth PySem.F.slot_dict_get PySem.F.type_dict_get ?zq66_N ?zq66_H ?zq66_m ?_; (case zq66_N => k_asm); (case zq66_H => assumption); (case zq66_m => k_mem)))))) | ((with_reducible show wpAny _ _ (call (Value.builtin "list.append") _) _ _ _); with_reducible ((k_here; (with_reducible show wpAny _ _ (call (Value.builtin _) [Value.ref _, _]) _ _ _); k_dflt (refine' append_K ?zq67_k1 ?zq67_k2 ?zq67_k3 ?_ ?zq67_z; (case zq67_k1 => k_asm); (case zq67_k2 => k_asm); (case zq67_k3 => k_upd); (case zq67_z => first | exact Nat.le_of_ble_eq_true rfl | (rw [sizeLine_eq]; omega)); k_whole); intro hq_z Fq_z Nq_z; (try k_sweep)))) | with_reducible (lcg_end) | walk1))))))
  (try dsimp only)
  rw [hc]
  clear dr1 dr2 hc
  rename Obj => oP
  rename World => w
  rename Shared => s1
  (repeat' (first | ((k_unfold; (try dsimp only))) | ((fail_if_success (with_reducible show wpAny _ _ (newList _) _ _ _)); (((fail_if_success (with_reducible show wpAny _ _ (pyIter _) _ _ _)); (fail_if_success (with_reducible show LCg.CompSrc _ _ _ _ _ _ _ _ _ _ _ _ _ _)); (fail_if_success (with_reducible show LCt.CompSrcT _ _ _ _ _ _ _ _ _ _ _ _ _ _ _)); (fail_if_success (with_reducible show wpAny _ _ (call (Value.ref 295) _) _ _ _)); (fail_if_success (with_reducible show wpAny _ _ (call (Value.ref 302) _) _ _ _)); (fail_if_success (with_reducible show wpAny _ _ (call (Value.ref 321) _) _ _ _)); first | with_reducible ((k_here; (with_reducible show wpAny _ _ (eval (Expr.Name _ _) (compEnvC _ _ _ _)) _ _ _); k_dflt (refine' lcf_cell ?zq63_N ?zq63_c ?zq63_m ?zq63_d ?_ ?zq63_a ?zq63_b; (case zq63_a => rfl); (case zq63_b => rfl); (case zq63_N => k_asm); (case zq63_c => rfl); (case zq63_m => walk_at "M memR"); (case zq63_d => k_asm); k_whole))) | ((with_reducible show wpAny _ _ (eval (Expr.ListComp _ _ _ _) _) _ _ _); with_reducible ((k_here; k_dflt (first   | ((with_reducible show wpAny _ _ (eval (Expr.ListComp _ [⟨Expr.Name _ _, _, [_], _⟩] _ _) _) _ _ _); (refine LCt.ListComp_T (F₀ := by k_asm) (by with_unfolding_all rfl) (by decide) (by rfl) (by decide) (by rfl) ?_))   | ((with_reducible show wpAny _ _ (eval (Expr.ListComp _ [⟨Expr.Name _ _, _, [], _⟩] _ _) _) _ _ _); (refine LCg.ListComp_U (F₀ := by k_asm) (by with_unfolding_all rfl) (by decide) (by rfl) (by decide) (by rfl) ?_)))))) | ((with_reducible show wpAny _ _ (call (Value.type "range") _) _ _ _); with_reducible ((k_here; ((refine' range1_N ?zq65_F ?zq65_N ?_; (case zq65_F => k_asm); (case zq65_N => k_asm); k_whole); intro hq_z r7_z t71_z t73_z tk7_z hR7_z Fq_z Nq_z)))) | ((with_reducible show wpAny _ _ (getMethod (Value.ref _) _ _) _ _ _); with_reducible ((k_here; k_dflt (first   | (refine' homes_meth PySem.F.slot_dict_setdefault PySem.F.type_dict_setdefault ?zq66_N ?zq66_H ?zq66_m ?_; (case zq66_N => k_asm); (case zq66_H => assumption); (case zq66_m => k_mem))   | (refine' homes_meth PySem.F.slot_dict_get PySem.F.type_dict_get ?zq66_N ?zq66_H ?zq66_m ?_; (case zq66_N => k_asm); (case zq66_H => assumption); (case zq66_m => k_mem)))))) | ((with_reducible show wpAny _ _ (call (Value.builtin "list.append") _) _ _ _); with_reducible ((k_here; (with_reducible show wpAny _ _ (call (Value.builtin _) [Value.ref _, _]) _ _ _); k_dflt (refine' append_K ?zq67_k1 ?zq67_k2 ?zq67_k3 ?_ ?zq67_z; (case zq67_k1 => k_asm); (case zq67_k2 => k_asm); (case zq67_k3 => k_upd); (case zq67_z => first | exact Nat.le_of_ble_eq_true rfl | (rw [sizeLine_eq]; omega)); k_whole); intro hq_z Fq_z Nq_z; (try k_sweep)))) | with_reducible (lcg_end) | walk1 | (dsimp only; first | with_reducible ((k_here; (with_reducible show wpAny _ _ (eval (Expr.Name _ _) (compEnvC _ _ _ _)) _ _ _); k_dflt (refine' lcf_cell ?zq63_N ?zq63_c ?zq63_m ?zq63_d ?_ ?zq63_a ?zq63_b; (case zq63_a => rfl); (case zq63_b => rfl); (case zq63_N => k_asm); (case zq63_c => rfl); (case zq63_m => walk_at "M memR"); (case zq63_d => k_asm); k_whole))) | ((with_reducible show wpAny _ _ (eval (Expr.ListComp _ _ _ _) _) _ _ _); with_reducible ((k_here; k_dflt (first   | ((with_reducible show wpAny _ _ (eval (Expr.ListComp _ [⟨Expr.Name _ _, _, [_], _⟩] _ _) _) _ _ _); (refine LCt.ListComp_T (F₀ := by k_asm) (by with_unfolding_all rfl) (by decide) (by rfl) (by decide) (by rfl) ?_))   | ((with_reducible show wpAny _ _ (eval (Expr.ListComp _ [⟨Expr.Name _ _, _, [], _⟩] _ _) _) _ _ _); (refine LCg.ListComp_U (F₀ := by k_asm) (by with_unfolding_all rfl) (by decide) (by rfl) (by decide) (by rfl) ?_)))))) | ((with_reducible show wpAny _ _ (call (Value.type "range") _) _ _ _); with_reducible ((k_here; ((refine' range1_N ?zq65_F ?zq65_N ?_; (case zq65_F => k_asm); (case zq65_N => k_asm); k_whole); intro hq_z r7_z t71_z t73_z tk7_z hR7_z Fq_z Nq_z)))) | ((with_reducible show wpAny _ _ (getMethod (Value.ref _) _ _) _ _ _); with_reducible ((k_here; k_dflt (first   | (refine' homes_meth PySem.F.slot_dict_setdefault PySem.F.type_dict_setdefault ?zq66_N ?zq66_H ?zq66_m ?_; (case zq66_N => k_asm); (case zq66_H => assumption); (case zq66_m => k_mem))   | (refine' homes_meth PySem.F.slot_dict_get PySem.F.type_dict_get ?zq66_N ?zq66_H ?zq66_m ?_; (case zq66_N => k_asm); (case zq66_H => assumption); (case zq66_m => k_mem)))))) | ((with_reducible show wpAny _ _ (call (Value.builtin "list.append") _) _ _ _); with_reducible ((k_here; (with_reducible show wpAny _ _ (call (Value.builtin _) [Value.ref _, _]) _ _ _); k_dflt (refine' append_K ?zq67_k1 ?zq67_k2 ?zq67_k3 ?_ ?zq67_z; (case zq67_k1 => k_asm); (case zq67_k2 => k_asm); (case zq67_k3 => k_upd); (case zq67_z => first | exact Nat.le_of_ble_eq_true rfl | (rw [sizeLine_eq]; omega)); k_whole); intro hq_z Fq_z Nq_z; (try k_sweep)))) | with_reducible (lcg_end) | walk1))))))
  k_dflt (refine' newList_K ?k1 ?k2 ?_; (case k1 => k_asm); (case k2 => k_asm))
  intro sl h8 F8 N8 lS
  replace lS := ltAll_of lS
  simp only [List.map_cons, List.map_nil] at lS
  (repeat' (first | ((k_unfold; (try dsimp only))) | (((fail_if_success (with_reducible show wpAny _ _ (pyIter _) _ _ _)); (fail_if_success (with_reducible show LCg.CompSrc _ _ _ _ _ _ _ _ _ _ _ _ _ _)); (fail_if_success (with_reducible show LCt.CompSrcT _ _ _ _ _ _ _ _ _ _ _ _ _ _ _)); (fail_if_success (with_reducible show wpAny _ _ (call (Value.ref 295) _) _ _ _)); (fail_if_success (with_reducible show wpAny _ _ (call (Value.ref 302) _) _ _ _)); (fail_if_success (with_reducible show wpAny _ _ (call (Value.ref 321) _) _ _ _)); first | with_reducible ((k_here; (with_reducible show wpAny _ _ (eval (Expr.Name _ _) (compEnvC _ _ _ _)) _ _ _); k_dflt (refine' lcf_cell ?zq63_N ?zq63_c ?zq63_m ?zq63_d ?_ ?zq63_a ?zq63_b; (case zq63_a => rfl); (case zq63_b => rfl); (case zq63_N => k_asm); (case zq63_c => rfl); (case zq63_m => walk_at "M memR"); (case zq63_d => k_asm); k_whole))) | ((with_reducible show wpAny _ _ (eval (Expr.ListComp _ _ _ _) _) _ _ _); with_reducible ((k_here; k_dflt (first   | ((with_reducible show wpAny _ _ (eval (Expr.ListComp _ [⟨Expr.Name _ _, _, [_], _⟩] _ _) _) _ _ _); (refine LCt.ListComp_T (F₀ := by k_asm) (by with_unfolding_all rfl) (by decide) (by rfl) (by decide) (by rfl) ?_))   | ((with_reducible show wpAny _ _ (eval (Expr.ListComp _ [⟨Expr.Name _ _, _, [], _⟩] _ _) _) _ _ _); (refine LCg.ListComp_U (F₀ := by k_asm) (by with_unfolding_all rfl) (by decide) (by rfl) (by decide) (by rfl) ?_)))))) | ((with_reducible show wpAny _ _ (call (Value.type "range") _) _ _ _); with_reducible ((k_here; ((refine' range1_N ?zq65_F ?zq65_N ?_; (case zq65_F => k_asm); (case zq65_N => k_asm); k_whole); intro hq_z r7_z t71_z t73_z tk7_z hR7_z Fq_z Nq_z)))) | ((with_reducible show wpAny _ _ (getMethod (Value.ref _) _ _) _ _ _); with_reducible ((k_here; k_dflt (first   | (refine' homes_meth PySem.F.slot_dict_setdefault PySem.F.type_dict_setdefault ?zq66_N ?zq66_H ?zq66_m ?_; (case zq66_N => k_asm); (case zq66_H => assumption); (case zq66_m => k_mem))   | (refine' homes_meth PySem.F.slot_dict_get PySem.F.type_dict_get ?zq66_N ?zq66_H ?zq66_m ?_; (case zq66_N => k_asm); (case zq66_H => assumption); (case zq66_m => k_mem)))))) | ((with_reducible show wpAny _ _ (call (Value.builtin "list.append") _) _ _ _); with_reducible ((k_here; (with_reducible show wpAny _ _ (call (Value.builtin _) [Value.ref _, _]) _ _ _); k_dflt (refine' append_K ?zq67_k1 ?zq67_k2 ?zq67_k3 ?_ ?zq67_z; (case zq67_k1 => k_asm); (case zq67_k2 => k_asm); (case zq67_k3 => k_upd); (case zq67_z => first | exact Nat.le_of_ble_eq_true rfl | (rw [sizeLine_eq]; omega)); k_whole); intro hq_z Fq_z Nq_z; (try k_sweep)))) | with_reducible (lcg_end) | walk1 | (dsimp only; first | with_reducible ((k_here; (with_reducible show wpAny _ _ (eval (Expr.Name _ _) (compEnvC _ _ _ _)) _ _ _); k_dflt (refine' lcf_cell ?zq63_N ?zq63_c ?zq63_m ?zq63_d ?_ ?zq63_a ?zq63_b; (case zq63_a => rfl); (case zq63_b => rfl); (case zq63_N => k_asm); (case zq63_c => rfl); (case zq63_m => walk_at "M memR"); (case zq63_d => k_asm); k_whole))) | ((with_reducible show wpAny _ _ (eval (Expr.ListComp _ _ _ _) _) _ _ _); with_reducible ((k_here; k_dflt (first   | ((with_reducible show wpAny _ _ (eval (Expr.ListComp _ [⟨Expr.Name _ _, _, [_], _⟩] _ _) _) _ _ _); (refine LCt.ListComp_T (F₀ := by k_asm) (by with_unfolding_all rfl) (by decide) (by rfl) (by decide) (by rfl) ?_))   | ((with_reducible show wpAny _ _ (eval (Expr.ListComp _ [⟨Expr.Name _ _, _, [], _⟩] _ _) _) _ _ _); (refine LCg.ListComp_U (F₀ := by k_asm) (by with_unfolding_all rfl) (by decide) (by rfl) (by decide) (by rfl) ?_)))))) | ((with_reducible show wpAny _ _ (call (Value.type "range") _) _ _ _); with_reducible ((k_here; ((refine' range1_N ?zq65_F ?zq65_N ?_; (case zq65_F => k_asm); (case zq65_N => k_asm); k_whole); intro hq_z r7_z t71_z t73_z tk7_z hR7_z Fq_z Nq_z)))) | ((with_reducible show wpAny _ _ (getMethod (Value.ref _) _ _) _ _ _); with_reducible ((k_here; k_dflt (first   | (refine' homes_meth PySem.F.slot_dict_setdefault PySem.F.type_dict_setdefault ?zq66_N ?zq66_H ?zq66_m ?_; (case zq66_N => k_asm); (case zq66_H => assumption); (case zq66_m => k_mem))   | (refine' homes_meth PySem.F.slot_dict_get PySem.F.type_dict_get ?zq66_N ?zq66_H ?zq66_m ?_; (case zq66_N => k_asm); (case zq66_H => assumption); (case zq66_m => k_mem)))))) | ((with_reducible show wpAny _ _ (call (Value.builtin "list.append") _) _ _ _); with_reducible ((k_here; (with_reducible show wpAny _ _ (call (Value.builtin _) [Value.ref _, _]) _ _ _); k_dflt (refine' append_K ?zq67_k1 ?zq67_k2 ?zq67_k3 ?_ ?zq67_z; (case zq67_k1 => k_asm); (case zq67_k2 => k_asm); (case zq67_k3 => k_upd); (case zq67_z => first | exact Nat.le_of_ble_eq_true rfl | (rw [sizeLine_eq]; omega)); k_whole); intro hq_z Fq_z Nq_z; (try k_sweep)))) | with_reducible (lcg_end) | walk1)))))
  k_dflt (refine' rangeG (stored := []) (G := LawG (byT w) sl pl cl (s1.heap.objs.size + 1 + 1 + 1) (s1.heap.objs.size + 1 + 1) (s1.heap.objs.size + 1) o1 o2 oP cits ck) (n := 2 * c) ?hh ?hr ?sm ?hn ?F ?N ?hG ?turn ?done; (case hh => rfl); (case F => k_asm); (case N => k_asm); (case hr => assumption); (case sm => exact small_one (by omega) (by omega) (by omega) (by omega)); (case hn => (rw [rangeSize_one]; split <;> omega)))
  case hG => exact ⟨gr7, st7, 0 + 1, t1, t2, t3, k7, #[], 0, [], [], rfl, ⟨g71, g72, s71, s72, by decide, by decide⟩, rfl, rfl, fun j x m e => by simp at e, fun _ _ p hp => nomatch hp⟩
  case turn =>
    rintro i t u h9 tk9 I o led hi ⟨gr, st, p, tg, ts, tp, k, vs, n, rest, ms, rfl, hP, hvs, hms, hset, hR⟩ hoff F9 N9
    (try dsimp only)
    (repeat' (first | ((k_unfold; (try dsimp only))) | (((fail_if_success (with_reducible show wpAny _ _ (pyIter _) _ _ _)); (fail_if_success (with_reducible show LCg.CompSrc _ _ _ _ _ _ _ _ _ _ _ _ _ _)); (fail_if_success (with_reducible show LCt.CompSrcT _ _ _ _ _ _ _ _ _ _ _ _ _ _ _)); (fail_if_success (with_reducible show wpAny _ _ (call (Value.ref 295) _) _ _ _)); (fail_if_success (with_reducible show wpAny _ _ (call (Value.ref 302) _) _ _ _)); (fail_if_success (with_reducible show wpAny _ _ (call (Value.ref 321) _) _ _ _)); first | with_reducible ((k_here; (with_reducible show wpAny _ _ (eval (Expr.Name _ _) (compEnvC _ _ _ _)) _ _ _); k_dflt (refine' lcf_cell ?zq63_N ?zq63_c ?zq63_m ?zq63_d ?_ ?zq63_a ?zq63_b; (case zq63_a => rfl); (case zq63_b => rfl); (case zq63_N => k_asm); (case zq63_c => rfl); (case zq63_m => walk_at "M memR"); (case zq63_d => k_asm); k_whole))) | ((with_reducible show wpAny _ _ (eval (Expr.ListComp _ _ _ _) _) _ _ _); with_reducible ((k_here; k_dflt (first   | ((with_reducible show wpAny _ _ (eval (Expr.ListComp _ [⟨Expr.Name _ _, _, [_], _⟩] _ _) _) _ _ _); (refine LCt.ListComp_T (F₀ := by k_asm) (by with_unfolding_all rfl) (by decide) (by rfl) (by decide) (by rfl) ?_))   | ((with_reducible show wpAny _ _ (eval (Expr.ListComp _ [⟨Expr.Name _ _, _, [], _⟩] _ _) _) _ _ _); (refine LCg.ListComp_U (F₀ := by k_asm) (by with_unfolding_all rfl) (by decide) (by rfl) (by decide) (by rfl) ?_)))))) | ((with_reducible show wpAny _ _ (call (Value.type "range") _) _ _ _); with_reducible ((k_here; ((refine' range1_N ?zq65_F ?zq65_N ?_; (case zq65_F => k_asm); (case zq65_N => k_asm); k_whole); intro hq_z r7_z t71_z t73_z tk7_z hR7_z Fq_z Nq_z)))) | ((with_reducible show wpAny _ _ (getMethod (Value.ref _) _ _) _ _ _); with_reducible ((k_here; k_dflt (first   | (refine' homes_meth PySem.F.slot_dict_setdefault PySem.F.type_dict_setdefault ?zq66_N ?zq66_H ?zq66_m ?_; (case zq66_N => k_asm); (case zq66_H => assumption); (case zq66_m => k_mem))   | (refine' homes_meth PySem.F.slot_dict_get PySem.F.type_dict_get ?zq66_N ?zq66_H ?zq66_m ?_; (case zq66_N => k_asm); (case zq66_H => assumption); (case zq66_m => k_mem)))))) | ((with_reducible show wpAny _ _ (call (Value.builtin "list.append") _) _ _ _); with_reducible ((k_here; (with_reducible show wpAny _ _ (call (Value.builtin _) [Value.ref _, _]) _ _ _); k_dflt (refine' append_K ?zq67_k1 ?zq67_k2 ?zq67_k3 ?_ ?zq67_z; (case zq67_k1 => k_asm); (case zq67_k2 => k_asm); (case zq67_k3 => k_upd); (case zq67_z => first | exact Nat.le_of_ble_eq_true rfl | (rw [sizeLine_eq]; omega)); k_whole); intro hq_z Fq_z Nq_z; (try k_sweep)))) | with_reducible (lcg_end) | walk1 | (dsimp only; first | with_reducible ((k_here; (with_reducible show wpAny _ _ (eval (Expr.Name _ _) (compEnvC _ _ _ _)) _ _ _); k_dflt (refine' lcf_cell ?zq63_N ?zq63_c ?zq63_m ?zq63_d ?_ ?zq63_a ?zq63_b; (case zq63_a => rfl); (case zq63_b => rfl); (case zq63_N => k_asm); (case zq63_c => rfl); (case zq63_m => walk_at "M memR"); (case zq63_d => k_asm); k_whole))) | ((with_reducible show wpAny _ _ (eval (Expr.ListComp _ _ _ _) _) _ _ _); with_reducible ((k_here; k_dflt (first   | ((with_reducible show wpAny _ _ (eval (Expr.ListComp _ [⟨Expr.Name _ _, _, [_], _⟩] _ _) _) _ _ _); (refine LCt.ListComp_T (F₀ := by k_asm) (by with_unfolding_all rfl) (by decide) (by rfl) (by decide) (by rfl) ?_))   | ((with_reducible show wpAny _ _ (eval (Expr.ListComp _ [⟨Expr.Name _ _, _, [], _⟩] _ _) _) _ _ _); (refine LCg.ListComp_U (F₀ := by k_asm) (by with_unfolding_all rfl) (by decide) (by rfl) (by decide) (by rfl) ?_)))))) | ((with_reducible show wpAny _ _ (call (Value.type "range") _) _ _ _); with_reducible ((k_here; ((refine' range1_N ?zq65_F ?zq65_N ?_; (case zq65_F => k_asm); (case zq65_N => k_asm); k_whole); intro hq_z r7_z t71_z t73_z tk7_z hR7_z Fq_z Nq_z)))) | ((with_reducible show wpAny _ _ (getMethod (Value.ref _) _ _) _ _ _); with_reducible ((k_here; k_dflt (first   | (refine' homes_meth PySem.F.slot_dict_setdefault PySem.F.type_dict_setdefault ?zq66_N ?zq66_H ?zq66_m ?_; (case zq66_N => k_asm); (case zq66_H => assumption); (case zq66_m => k_mem))   | (refine' homes_meth PySem.F.slot_dict_get PySem.F.type_dict_get ?zq66_N ?zq66_H ?zq66_m ?_; (case zq66_N => k_asm); (case zq66_H => assumption); (case zq66_m => k_mem)))))) | ((with_reducible show wpAny _ _ (call (Value.builtin "list.append") _) _ _ _); with_reducible ((k_here; (with_reducible show wpAny _ _ (call (Value.builtin _) [Value.ref _, _]) _ _ _); k_dflt (refine' append_K ?zq67_k1 ?zq67_k2 ?zq67_k3 ?_ ?zq67_z; (case zq67_k1 => k_asm); (case zq67_k2 => k_asm); (case zq67_k3 => k_upd); (case zq67_z => first | exact Nat.le_of_ble_eq_true rfl | (rw [sizeLine_eq]; omega)); k_whole); intro hq_z Fq_z Nq_z; (try k_sweep)))) | with_reducible (lcg_end) | walk1)))))
    k_dflt (refine' LCt.CompSrcT.range ?hh ?F ?N ?hr ?sm ?n ?sz ?_; (case hh => rfl); (case F => k_asm); (case N => k_asm); (case hr => assumption); (case sm => decide); (case n => exact rs0 5); (case sz => exact Nat.le_of_ble_eq_true rfl))
    intro g7
    k_dflt (refine' compRestT (G := LawC I o sl pl cl (s1.heap.objs.size + 1 + 1 + 1) (s1.heap.objs.size + 1 + 1) (s1.heap.objs.size + 1) o1 o2 oP cits ck vs n rest (1 + 5 * i)) ?G0 ?turn2 ?fin2)
    case G0 => exact ⟨gr, st, p, tg, ts, tp, k, [], rfl, hP, .nil⟩
    case turn2 =>
      rintro j ys led2 v I' oI C oC D m₂ h10 tk10 E' hj ⟨gr2, st2, p2, tg2, ts2, tp2, k2, us, rfl, hP2, hdr⟩ ⟨t6, rfl⟩ hC hx F10 N10 off ne
      rw [Int.zero_add] at hx
      (repeat' (first | ((k_unfold; (try dsimp only))) | (((fail_if_success (with_reducible show wpAny _ _ (pyIter _) _ _ _)); (fail_if_success (with_reducible show LCg.CompSrc _ _ _ _ _ _ _ _ _ _ _ _ _ _)); (fail_if_success (with_reducible show LCt.CompSrcT _ _ _ _ _ _ _ _ _ _ _ _ _ _ _)); (fail_if_success (with_reducible show wpAny _ _ (call (Value.ref 295) _) _ _ _)); (fail_if_success (with_reducible show wpAny _ _ (call (Value.ref 302) _) _ _ _)); (fail_if_success (with_reducible show wpAny _ _ (call (Value.ref 321) _) _ _ _)); first | with_reducible ((k_here; (with_reducible show wpAny _ _ (eval (Expr.Name _ _) (compEnvC _ _ _ _)) _ _ _); k_dflt (refine' lcf_cell ?zq63_N ?zq63_c ?zq63_m ?zq63_d ?_ ?zq63_a ?zq63_b; (case zq63_a => rfl); (case zq63_b => rfl); (case zq63_N => k_asm); (case zq63_c => rfl); (case zq63_m => walk_at "M memR"); (case zq63_d => k_asm); k_whole))) | ((with_reducible show wpAny _ _ (eval (Expr.ListComp _ _ _ _) _) _ _ _); with_reducible ((k_here; k_dflt (first   | ((with_reducible show wpAny _ _ (eval (Expr.ListComp _ [⟨Expr.Name _ _, _, [_], _⟩] _ _) _) _ _ _); (refine LCt.ListComp_T (F₀ := by k_asm) (by with_unfolding_all rfl) (by decide) (by rfl) (by decide) (by rfl) ?_))   | ((with_reducible show wpAny _ _ (eval (Expr.ListComp _ [⟨Expr.Name _ _, _, [], _⟩] _ _) _) _ _ _); (refine LCg.ListComp_U (F₀ := by k_asm) (by with_unfolding_all rfl) (by decide) (by rfl) (by decide) (by rfl) ?_)))))) | ((with_reducible show wpAny _ _ (call (Value.type "range") _) _ _ _); with_reducible ((k_here; ((refine' range1_N ?zq65_F ?zq65_N ?_; (case zq65_F => k_asm); (case zq65_N => k_asm); k_whole); intro hq_z r7_z t71_z t73_z tk7_z hR7_z Fq_z Nq_z)))) | ((with_reducible show wpAny _ _ (getMethod (Value.ref _) _ _) _ _ _); with_reducible ((k_here; k_dflt (first   | (refine' homes_meth PySem.F.slot_dict_setdefault PySem.F.type_dict_setdefault ?zq66_N ?zq66_H ?zq66_m ?_; (case zq66_N => k_asm); (case zq66_H => assumption); (case zq66_m => k_mem))   | (refine' homes_meth PySem.F.slot_dict_get PySem.F.type_dict_get ?zq66_N ?zq66_H ?zq66_m ?_; (case zq66_N => k_asm); (case zq66_H => assumption); (case zq66_m => k_mem)))))) | ((with_reducible show wpAny _ _ (call (Value.builtin "list.append") _) _ _ _); with_reducible ((k_here; (with_reducible show wpAny _ _ (call (Value.builtin _) [Value.ref _, _]) _ _ _); k_dflt (refine' append_K ?zq67_k1 ?zq67_k2 ?zq67_k3 ?_ ?zq67_z; (case zq67_k1 => k_asm); (case zq67_k2 => k_asm); (case zq67_k3 => k_upd); (case zq67_z => first | exact Nat.le_of_ble_eq_true rfl | (rw [sizeLine_eq]; omega)); k_whole); intro hq_z Fq_z Nq_z; (try k_sweep)))) | with_reducible (lcg_end) | walk1 | (dsimp only; first | with_reducible ((k_here; (with_reducible show wpAny _ _ (eval (Expr.Name _ _) (compEnvC _ _ _ _)) _ _ _); k_dflt (refine' lcf_cell ?zq63_N ?zq63_c ?zq63_m ?zq63_d ?_ ?zq63_a ?zq63_b; (case zq63_a => rfl); (case zq63_b => rfl); (case zq63_N => k_asm); (case zq63_c => rfl); (case zq63_m => walk_at "M memR"); (case zq63_d => k_asm); k_whole))) | ((with_reducible show wpAny _ _ (eval (Expr.ListComp _ _ _ _) _) _ _ _); with_reducible ((k_here; k_dflt (first   | ((with_reducible show wpAny _ _ (eval (Expr.ListComp _ [⟨Expr.Name _ _, _, [_], _⟩] _ _) _) _ _ _); (refine LCt.ListComp_T (F₀ := by k_asm) (by with_unfolding_all rfl) (by decide) (by rfl) (by decide) (by rfl) ?_))   | ((with_reducible show wpAny _ _ (eval (Expr.ListComp _ [⟨Expr.Name _ _, _, [], _⟩] _ _) _) _ _ _); (refine LCg.ListComp_U (F₀ := by k_asm) (by with_unfolding_all rfl) (by decide) (by rfl) (by decide) (by rfl) ?_)))))) | ((with_reducible show wpAny _ _ (call (Value.type "range") _) _ _ _); with_reducible ((k_here; ((refine' range1_N ?zq65_F ?zq65_N ?_; (case zq65_F => k_asm); (case zq65_N => k_asm); k_whole); intro hq_z r7_z t71_z t73_z tk7_z hR7_z Fq_z Nq_z)))) | ((with_reducible show wpAny _ _ (getMethod (Value.ref _) _ _) _ _ _); with_reducible ((k_here; k_dflt (first   | (refine' homes_meth PySem.F.slot_dict_setdefault PySem.F.type_dict_setdefault ?zq66_N ?zq66_H ?zq66_m ?_; (case zq66_N => k_asm); (case zq66_H => assumption); (case zq66_m => k_mem))   | (refine' homes_meth PySem.F.slot_dict_get PySem.F.type_dict_get ?zq66_N ?zq66_H ?zq66_m ?_; (case zq66_N => k_asm); (case zq66_H => assumption); (case zq66_m => k_mem)))))) | ((with_reducible show wpAny _ _ (call (Value.builtin "list.append") _) _ _ _); with_reducible ((k_here; (with_reducible show wpAny _ _ (call (Value.builtin _) [Value.ref _, _]) _ _ _); k_dflt (refine' append_K ?zq67_k1 ?zq67_k2 ?zq67_k3 ?_ ?zq67_z; (case zq67_k1 => k_asm); (case zq67_k2 => k_asm); (case zq67_k3 => k_upd); (case zq67_z => first | exact Nat.le_of_ble_eq_true rfl | (rw [sizeLine_eq]; omega)); k_whole); intro hq_z Fq_z Nq_z; (try k_sweep)))) | with_reducible (lcg_end) | walk1)))))
      k_dflt (refine' draw_spec (led := (I', oI) :: (C, oC) :: (D, LCg.lst ys) :: (I, o) :: (sl, W.listOf vs n) :: (cl, W.listOf cits ck) :: (s1.heap.objs.size + 1 + 1 + 1, o1) :: (s1.heap.objs.size + 1 + 1, o2) :: (s1.heap.objs.size + 1, oP) :: rest) ?X ?B ?F ?T ?hk ?hdp ?hun ?N ?hc ?hR I5 z5 hP2.g1 hP2.g2 hP2.s1 hP2.s2 hP2.p1 ?p2 ?m1 ?m2 ?_; (case X => k_asm); (case B => k_asm); (case F => k_asm); (case T => k_asm); (case N => exact law_front (by assumption)); (case hk => rfl); (case hdp => decide); (case hun => decide); (case hc => k_mem); (case hR => exact law_pl (LCg.Off3.mem off (pl, _) (by k_dflt k_mem)) (hoff (pl, _) (by k_dflt k_mem)) (lS pl (by k_dflt k_mem)) e1 (hR pl (by k_dflt k_mem))); (case p2 => (have := hP2.p2; omega)); (case m1 => decide); (case m2 => decide))
      intro h11 tk11 gr3 st3 t7 t8 t9 k9 d11 td11 F11 N11 g91 g92 s91 s92 dr1 dr2
      obtain ⟨N12, off12⟩ := law_parts N11 off
      have hP3 : PoolS gr3 st3 (p2 + 1) (1 + 5 * i + (j + 1)) := ⟨g91, g92, s91, s92, by have := hP2.p1; omega, by have := hP2.p2; omega⟩
      (repeat' (first | ((k_unfold; (try dsimp only))) | (((fail_if_success (with_reducible show wpAny _ _ (pyIter _) _ _ _)); (fail_if_success (with_reducible show LCg.CompSrc _ _ _ _ _ _ _ _ _ _ _ _ _ _)); (fail_if_success (with_reducible show LCt.CompSrcT _ _ _ _ _ _ _ _ _ _ _ _ _ _ _)); (fail_if_success (with_reducible show wpAny _ _ (call (Value.ref 295) _) _ _ _)); (fail_if_success (with_reducible show wpAny _ _ (call (Value.ref 302) _) _ _ _)); (fail_if_success (with_reducible show wpAny _ _ (call (Value.ref 321) _) _ _ _)); first | with_reducible ((k_here; (with_reducible show wpAny _ _ (eval (Expr.Name _ _) (compEnvC _ _ _ _)) _ _ _); k_dflt (refine' lcf_cell ?zq63_N ?zq63_c ?zq63_m ?zq63_d ?_ ?zq63_a ?zq63_b; (case zq63_a => rfl); (case zq63_b => rfl); (case zq63_N => k_asm); (case zq63_c => rfl); (case zq63_m => walk_at "M memR"); (case zq63_d => k_asm); k_whole))) | ((with_reducible show wpAny _ _ (eval (Expr.ListComp _ _ _ _) _) _ _ _); with_reducible ((k_here; k_dflt (first   | ((with_reducible show wpAny _ _ (eval (Expr.ListComp _ [⟨Expr.Name _ _, _, [_], _⟩] _ _) _) _ _ _); (refine LCt.ListComp_T (F₀ := by k_asm) (by with_unfolding_all rfl) (by decide) (by rfl) (by decide) (by rfl) ?_))   | ((with_reducible show wpAny _ _ (eval (Expr.ListComp _ [⟨Expr.Name _ _, _, [], _⟩] _ _) _) _ _ _); (refine LCg.ListComp_U (F₀ := by k_asm) (by with_unfolding_all rfl) (by decide) (by rfl) (by decide) (by rfl) ?_)))))) | ((with_reducible show wpAny _ _ (call (Value.type "range") _) _ _ _); with_reducible ((k_here; ((refine' range1_N ?zq65_F ?zq65_N ?_; (case zq65_F => k_asm); (case zq65_N => k_asm); k_whole); intro hq_z r7_z t71_z t73_z tk7_z hR7_z Fq_z Nq_z)))) | ((with_reducible show wpAny _ _ (getMethod (Value.ref _) _ _) _ _ _); with_reducible ((k_here; k_dflt (first   | (refine' homes_meth PySem.F.slot_dict_setdefault PySem.F.type_dict_setdefault ?zq66_N ?zq66_H ?zq66_m ?_; (case zq66_N => k_asm); (case zq66_H => assumption); (case zq66_m => k_mem))   | (refine' homes_meth PySem.F.slot_dict_get PySem.F.type_dict_get ?zq66_N ?zq66_H ?zq66_m ?_; (case zq66_N => k_asm); (case zq66_H => assumption); (case zq66_m => k_mem)))))) | ((with_reducible show wpAny _ _ (call (Value.builtin "list.append") _) _ _ _); with_reducible ((k_here; (with_reducible show wpAny _ _ (call (Value.builtin _) [Value.ref _, _]) _ _ _); k_dflt (refine' append_K ?zq67_k1 ?zq67_k2 ?zq67_k3 ?_ ?zq67_z; (case zq67_k1 => k_asm); (case zq67_k2 => k_asm); (case zq67_k3 => k_upd); (case zq67_z => first | exact Nat.le_of_ble_eq_true rfl | (rw [sizeLine_eq]; omega)); k_whole); intro hq_z Fq_z Nq_z; (try k_sweep)))) | with_reducible (lcg_end) | walk1 | (dsimp only; first | with_reducible ((k_here; (with_reducible show wpAny _ _ (eval (Expr.Name _ _) (compEnvC _ _ _ _)) _ _ _); k_dflt (refine' lcf_cell ?zq63_N ?zq63_c ?zq63_m ?zq63_d ?_ ?zq63_a ?zq63_b; (case zq63_a => rfl); (case zq63_b => rfl); (case zq63_N => k_asm); (case zq63_c => rfl); (case zq63_m => walk_at "M memR"); (case zq63_d => k_asm); k_whole))) | ((with_reducible show wpAny _ _ (eval (Expr.ListComp _ _ _ _) _) _ _ _); with_reducible ((k_here; k_dflt (first   | ((with_reducible show wpAny _ _ (eval (Expr.ListComp _ [⟨Expr.Name _ _, _, [_], _⟩] _ _) _) _ _ _); (refine LCt.ListComp_T (F₀ := by k_asm) (by with_unfolding_all rfl) (by decide) (by rfl) (by decide) (by rfl) ?_))   | ((with_reducible show wpAny _ _ (eval (Expr.ListComp _ [⟨Expr.Name _ _, _, [], _⟩] _ _) _) _ _ _); (refine LCg.ListComp_U (F₀ := by k_asm) (by with_unfolding_all rfl) (by decide) (by rfl) (by decide) (by rfl) ?_)))))) | ((with_reducible show wpAny _ _ (call (Value.type "range") _) _ _ _); with_reducible ((k_here; ((refine' range1_N ?zq65_F ?zq65_N ?_; (case zq65_F => k_asm); (case zq65_N => k_asm); k_whole); intro hq_z r7_z t71_z t73_z tk7_z hR7_z Fq_z Nq_z)))) | ((with_reducible show wpAny _ _ (getMethod (Value.ref _) _ _) _ _ _); with_reducible ((k_here; k_dflt (first   | (refine' homes_meth PySem.F.slot_dict_setdefault PySem.F.type_dict_setdefault ?zq66_N ?zq66_H ?zq66_m ?_; (case zq66_N => k_asm); (case zq66_H => assumption); (case zq66_m => k_mem))   | (refine' homes_meth PySem.F.slot_dict_get PySem.F.type_dict_get ?zq66_N ?zq66_H ?zq66_m ?_; (case zq66_N => k_asm); (case zq66_H => assumption); (case zq66_m => k_mem)))))) | ((with_reducible show wpAny _ _ (call (Value.builtin "list.append") _) _ _ _); with_reducible ((k_here; (with_reducible show wpAny _ _ (call (Value.builtin _) [Value.ref _, _]) _ _ _); k_dflt (refine' append_K ?zq67_k1 ?zq67_k2 ?zq67_k3 ?_ ?zq67_z; (case zq67_k1 => k_asm); (case zq67_k2 => k_asm); (case zq67_k3 => k_upd); (case zq67_z => first | exact Nat.le_of_ble_eq_true rfl | (rw [sizeLine_eq]; omega)); k_whole); intro hq_z Fq_z Nq_z; (try k_sweep)))) | with_reducible (lcg_end) | walk1)))))
      · exact LCg.CompEnd.intro (by assumption) N12 _ (fun p hp => hp) off12 trivial ⟨_, _, _, _, _, _, _, _, rfl, hP3, hdr.snoc hj⟩
      · exact LCg.CompEnd.intro (by assumption) N12 _ (fun p hp => hp) off12 trivial ⟨_, _, _, _, _, _, _, _, rfl, hP3, hdr⟩
    case fin2 =>
      rintro ys led2 ⟨gr2, st2, p2, tg2, ts2, tp2, k2, us, rfl, hP2, hdr⟩
      unfold LCg.FinE
      intro D12 h12 tk12 F12 N12 o12
      replace o12 := neAll_of o12
      simp only [List.map_cons] at o12
      (try dsimp only)
      (repeat' (first | ((k_unfold; (try dsimp only))) | (((fail_if_success (with_reducible show wpAny _ _ (pyIter _) _ _ _)); (fail_if_success (with_reducible show LCg.CompSrc _ _ _ _ _ _ _ _ _ _ _ _ _ _)); (fail_if_success (with_reducible show LCt.CompSrcT _ _ _ _ _ _ _ _ _ _ _ _ _ _ _)); (fail_if_success (with_reducible show wpAny _ _ (call (Value.ref 295) _) _ _ _)); (fail_if_success (with_reducible show wpAny _ _ (call (Value.ref 302) _) _ _ _)); (fail_if_success (with_reducible show wpAny _ _ (call (Value.ref 321) _) _ _ _)); first | with_reducible ((k_here; (with_reducible show wpAny _ _ (eval (Expr.Name _ _) (compEnvC _ _ _ _)) _ _ _); k_dflt (refine' lcf_cell ?zq63_N ?zq63_c ?zq63_m ?zq63_d ?_ ?zq63_a ?zq63_b; (case zq63_a => rfl); (case zq63_b => rfl); (case zq63_N => k_asm); (case zq63_c => rfl); (case zq63_m => walk_at "M memR"); (case zq63_d => k_asm); k_whole))) | ((with_reducible show wpAny _ _ (eval (Expr.ListComp _ _ _ _) _) _ _ _); with_reducible ((k_here; k_dflt (first   | ((with_reducible show wpAny _ _ (eval (Expr.ListComp _ [⟨Expr.Name _ _, _, [_], _⟩] _ _) _) _ _ _); (refine LCt.ListComp_T (F₀ := by k_asm) (by with_unfolding_all rfl) (by decide) (by rfl) (by decide) (by rfl) ?_))   | ((with_reducible show wpAny _ _ (eval (Expr.ListComp _ [⟨Expr.Name _ _, _, [], _⟩] _ _) _) _ _ _); (refine LCg.ListComp_U (F₀ := by k_asm) (by with_unfolding_all rfl) (by decide) (by rfl) (by decide) (by rfl) ?_)))))) | ((with_reducible show wpAny _ _ (call (Value.type "range") _) _ _ _); with_reducible ((k_here; ((refine' range1_N ?zq65_F ?zq65_N ?_; (case zq65_F => k_asm); (case zq65_N => k_asm); k_whole); intro hq_z r7_z t71_z t73_z tk7_z hR7_z Fq_z Nq_z)))) | ((with_reducible show wpAny _ _ (getMethod (Value.ref _) _ _) _ _ _); with_reducible ((k_here; k_dflt (first   | (refine' homes_meth PySem.F.slot_dict_setdefault PySem.F.type_dict_setdefault ?zq66_N ?zq66_H ?zq66_m ?_; (case zq66_N => k_asm); (case zq66_H => assumption); (case zq66_m => k_mem))   | (refine' homes_meth PySem.F.slot_dict_get PySem.F.type_dict_get ?zq66_N ?zq66_H ?zq66_m ?_; (case zq66_N => k_asm); (case zq66_H => assumption); (case zq66_m => k_mem)))))) | ((with_reducible show wpAny _ _ (call (Value.builtin "list.append") _) _ _ _); with_reducible ((k_here; (with_reducible show wpAny _ _ (call (Value.builtin _) [Value.ref _, _]) _ _ _); k_dflt (refine' append_K ?zq67_k1 ?zq67_k2 ?zq67_k3 ?_ ?zq67_z; (case zq67_k1 => k_asm); (case zq67_k2 => k_asm); (case zq67_k3 => k_upd); (case zq67_z => first | exact Nat.le_of_ble_eq_true rfl | (rw [sizeLine_eq]; omega)); k_whole); intro hq_z Fq_z Nq_z; (try k_sweep)))) | with_reducible (lcg_end) | walk1 | (dsimp only; first | with_reducible ((k_here; (with_reducible show wpAny _ _ (eval (Expr.Name _ _) (compEnvC _ _ _ _)) _ _ _); k_dflt (refine' lcf_cell ?zq63_N ?zq63_c ?zq63_m ?zq63_d ?_ ?zq63_a ?zq63_b; (case zq63_a => rfl); (case zq63_b => rfl); (case zq63_N => k_asm); (case zq63_c => rfl); (case zq63_m => walk_at "M memR"); (case zq63_d => k_asm); k_whole))) | ((with_reducible show wpAny _ _ (eval (Expr.ListComp _ _ _ _) _) _ _ _); with_reducible ((k_here; k_dflt (first   | ((with_reducible show wpAny _ _ (eval (Expr.ListComp _ [⟨Expr.Name _ _, _, [_], _⟩] _ _) _) _ _ _); (refine LCt.ListComp_T (F₀ := by k_asm) (by with_unfolding_all rfl) (by decide) (by rfl) (by decide) (by rfl) ?_))   | ((with_reducible show wpAny _ _ (eval (Expr.ListComp _ [⟨Expr.Name _ _, _, [], _⟩] _ _) _) _ _ _); (refine LCg.ListComp_U (F₀ := by k_asm) (by with_unfolding_all rfl) (by decide) (by rfl) (by decide) (by rfl) ?_)))))) | ((with_reducible show wpAny _ _ (call (Value.type "range") _) _ _ _); with_reducible ((k_here; ((refine' range1_N ?zq65_F ?zq65_N ?_; (case zq65_F => k_asm); (case zq65_N => k_asm); k_whole); intro hq_z r7_z t71_z t73_z tk7_z hR7_z Fq_z Nq_z)))) | ((with_reducible show wpAny _ _ (getMethod (Value.ref _) _ _) _ _ _); with_reducible ((k_here; k_dflt (first   | (refine' homes_meth PySem.F.slot_dict_setdefault PySem.F.type_dict_setdefault ?zq66_N ?zq66_H ?zq66_m ?_; (case zq66_N => k_asm); (case zq66_H => assumption); (case zq66_m => k_mem))   | (refine' homes_meth PySem.F.slot_dict_get PySem.F.type_dict_get ?zq66_N ?zq66_H ?zq66_m ?_; (case zq66_N => k_asm); (case zq66_H => assumption); (case zq66_m => k_mem)))))) | ((with_reducible show wpAny _ _ (call (Value.builtin "list.append") _) _ _ _); with_reducible ((k_here; (with_reducible show wpAny _ _ (call (Value.builtin _) [Value.ref _, _]) _ _ _); k_dflt (refine' append_K ?zq67_k1 ?zq67_k2 ?zq67_k3 ?_ ?zq67_z; (case zq67_k1 => k_asm); (case zq67_k2 => k_asm); (case zq67_k3 => k_upd); (case zq67_z => first | exact Nat.le_of_ble_eq_true rfl | (rw [sizeLine_eq]; omega)); k_whole); intro hq_z Fq_z Nq_z; (try k_sweep)))) | with_reducible (lcg_end) | walk1)))))
      k_dflt (refine' setL_N (us := us) ?hh ?F ?N ?hm ?hn ?hval ?_; (case hh => rfl); (case F => k_asm); (case N => k_asm); (case hm => k_mem); (case hn => (rw [List.size_toArray]; exact hdr.1)); (case hval => exact fun i v e => hdr.2 i v (by simpa using e)))
      intro h13 c13 o13 tk13 F13 N13 M13 l13
      have q13 := l13
      replace l13 := ltAll_of l13
      have nI := neAll_of_all hoff
      simp only [List.map_cons] at l13 nI
      (repeat' (first | ((k_unfold; (try dsimp only))) | (((fail_if_success (with_reducible show wpAny _ _ (pyIter _) _ _ _)); (fail_if_success (with_reducible show LCg.CompSrc _ _ _ _ _ _ _ _ _ _ _ _ _ _)); (fail_if_success (with_reducible show LCt.CompSrcT _ _ _ _ _ _ _ _ _ _ _ _ _ _ _)); (fail_if_success (with_reducible show wpAny _ _ (call (Value.ref 295) _) _ _ _)); (fail_if_success (with_reducible show wpAny _ _ (call (Value.ref 302) _) _ _ _)); (fail_if_success (with_reducible show wpAny _ _ (call (Value.ref 321) _) _ _ _)); first | with_reducible ((k_here; (with_reducible show wpAny _ _ (eval (Expr.Name _ _) (compEnvC _ _ _ _)) _ _ _); k_dflt (refine' lcf_cell ?zq63_N ?zq63_c ?zq63_m ?zq63_d ?_ ?zq63_a ?zq63_b; (case zq63_a => rfl); (case zq63_b => rfl); (case zq63_N => k_asm); (case zq63_c => rfl); (case zq63_m => walk_at "M memR"); (case zq63_d => k_asm); k_whole))) | ((with_reducible show wpAny _ _ (eval (Expr.ListComp _ _ _ _) _) _ _ _); with_reducible ((k_here; k_dflt (first   | ((with_reducible show wpAny _ _ (eval (Expr.ListComp _ [⟨Expr.Name _ _, _, [_], _⟩] _ _) _) _ _ _); (refine LCt.ListComp_T (F₀ := by k_asm) (by with_unfolding_all rfl) (by decide) (by rfl) (by decide) (by rfl) ?_))   | ((with_reducible show wpAny _ _ (eval (Expr.ListComp _ [⟨Expr.Name _ _, _, [], _⟩] _ _) _) _ _ _); (refine LCg.ListComp_U (F₀ := by k_asm) (by with_unfolding_all rfl) (by decide) (by rfl) (by decide) (by rfl) ?_)))))) | ((with_reducible show wpAny _ _ (call (Value.type "range") _) _ _ _); with_reducible ((k_here; ((refine' range1_N ?zq65_F ?zq65_N ?_; (case zq65_F => k_asm); (case zq65_N => k_asm); k_whole); intro hq_z r7_z t71_z t73_z tk7_z hR7_z Fq_z Nq_z)))) | ((with_reducible show wpAny _ _ (getMethod (Value.ref _) _ _) _ _ _); with_reducible ((k_here; k_dflt (first   | (refine' homes_meth PySem.F.slot_dict_setdefault PySem.F.type_dict_setdefault ?zq66_N ?zq66_H ?zq66_m ?_; (case zq66_N => k_asm); (case zq66_H => assumption); (case zq66_m => k_mem))   | (refine' homes_meth PySem.F.slot_dict_get PySem.F.type_dict_get ?zq66_N ?zq66_H ?zq66_m ?_; (case zq66_N => k_asm); (case zq66_H => assumption); (case zq66_m => k_mem)))))) | ((with_reducible show wpAny _ _ (call (Value.builtin "list.append") _) _ _ _); with_reducible ((k_here; (with_reducible show wpAny _ _ (call (Value.builtin _) [Value.ref _, _]) _ _ _); k_dflt (refine' append_K ?zq67_k1 ?zq67_k2 ?zq67_k3 ?_ ?zq67_z; (case zq67_k1 => k_asm); (case zq67_k2 => k_asm); (case zq67_k3 => k_upd); (case zq67_z => first | exact Nat.le_of_ble_eq_true rfl | (rw [sizeLine_eq]; omega)); k_whole); intro hq_z Fq_z Nq_z; (try k_sweep)))) | with_reducible (lcg_end) | walk1 | (dsimp only; first | with_reducible ((k_here; (with_reducible show wpAny _ _ (eval (Expr.Name _ _) (compEnvC _ _ _ _)) _ _ _); k_dflt (refine' lcf_cell ?zq63_N ?zq63_c ?zq63_m ?zq63_d ?_ ?zq63_a ?zq63_b; (case zq63_a => rfl); (case zq63_b => rfl); (case zq63_N => k_asm); (case zq63_c => rfl); (case zq63_m => walk_at "M memR"); (case zq63_d => k_asm); k_whole))) | ((with_reducible show wpAny _ _ (eval (Expr.ListComp _ _ _ _) _) _ _ _); with_reducible ((k_here; k_dflt (first   | ((with_reducible show wpAny _ _ (eval (Expr.ListComp _ [⟨Expr.Name _ _, _, [_], _⟩] _ _) _) _ _ _); (refine LCt.ListComp_T (F₀ := by k_asm) (by with_unfolding_all rfl) (by decide) (by rfl) (by decide) (by rfl) ?_))   | ((with_reducible show wpAny _ _ (eval (Expr.ListComp _ [⟨Expr.Name _ _, _, [], _⟩] _ _) _) _ _ _); (refine LCg.ListComp_U (F₀ := by k_asm) (by with_unfolding_all rfl) (by decide) (by rfl) (by decide) (by rfl) ?_)))))) | ((with_reducible show wpAny _ _ (call (Value.type "range") _) _ _ _); with_reducible ((k_here; ((refine' range1_N ?zq65_F ?zq65_N ?_; (case zq65_F => k_asm); (case zq65_N => k_asm); k_whole); intro hq_z r7_z t71_z t73_z tk7_z hR7_z Fq_z Nq_z)))) | ((with_reducible show wpAny _ _ (getMethod (Value.ref _) _ _) _ _ _); with_reducible ((k_here; k_dflt (first   | (refine' homes_meth PySem.F.slot_dict_setdefault PySem.F.type_dict_setdefault ?zq66_N ?zq66_H ?zq66_m ?_; (case zq66_N => k_asm); (case zq66_H => assumption); (case zq66_m => k_mem))   | (refine' homes_meth PySem.F.slot_dict_get PySem.F.type_dict_get ?zq66_N ?zq66_H ?zq66_m ?_; (case zq66_N => k_asm); (case zq66_H => assumption); (case zq66_m => k_mem)))))) | ((with_reducible show wpAny _ _ (call (Value.builtin "list.append") _) _ _ _); with_reducible ((k_here; (with_reducible show wpAny _ _ (call (Value.builtin _) [Value.ref _, _]) _ _ _); k_dflt (refine' append_K ?zq67_k1 ?zq67_k2 ?zq67_k3 ?_ ?zq67_z; (case zq67_k1 => k_asm); (case zq67_k2 => k_asm); (case zq67_k3 => k_upd); (case zq67_z => first | exact Nat.le_of_ble_eq_true rfl | (rw [sizeLine_eq]; omega)); k_whole); intro hq_z Fq_z Nq_z; (try k_sweep)))) | with_reducible (lcg_end) | walk1)))))
      refine ⟨_, _, _, (sl, W.listOf (vs.push (.ref c13)) _) :: (pl, W.listOf #[.ref cl, .int gr2 tg2, .int st2 ts2, .int p2 tp2] k2) :: (cl, W.listOf cits ck) :: (s1.heap.objs.size + 1 + 1 + 1, o1) :: (s1.heap.objs.size + 1 + 1, o2) :: (s1.heap.objs.size + 1, oP) :: (c13, o13) :: rest, rfl, by assumption, News.sub (by assumption) (by (((repeat (refine List.forall_mem_cons.mpr ⟨by k_mem, ?_⟩)); first | exact List.forall_mem_nil _ | ((intro p hp; repeat (first | exact hp | refine List.mem_cons_of_mem _ ?_)))))), ?off, ⟨gr2, st2, p2, tg2, ts2, tp2, k2, vs.push (.ref c13), _, (c13, o13) :: rest, ms ++ [maskOf us], rfl, ?_, ?_, ?_, ?_, ?_⟩, ?_⟩
      · exact law_offI hoff (l13 I (by k_dflt k_mem))
      · exact ⟨hP2.g1, hP2.g2, hP2.s1, hP2.s2, hP2.p1, by have := hP2.p2; omega⟩
      · rw [Array.size_push, hvs]
      · rw [List.length_append, hms]; rfl
      · exact law_sets hvs hms hset M13
      · exact disR_push hR fun a ha => Nat.ne_of_lt (l13 a (List.mem_cons_of_mem _ (List.mem_cons_of_mem _ (List.mem_append_left (List.map (fun (x : Addr × Obj) => x.1) rest) ha))))
      · intro y h1 h2
        simp [h1]
  case done =>
    rintro u h9 tk9 led ⟨gr, st, p, tg, ts, tp, k, vs, n, rest, ms, rfl, hP, hvs, hms, hset, hR⟩ F9 N9
    (try dsimp only)
    (repeat' (first | ((k_unfold; (try dsimp only))) | ((fail_if_success (with_reducible show wpAny _ _ (subscriptTail _ (PySem.Expr.Slice _ _ _ _) _ _) _ _ _)); (((fail_if_success (with_reducible show wpAny _ _ (pyIter _) _ _ _)); (fail_if_success (with_reducible show LCg.CompSrc _ _ _ _ _ _ _ _ _ _ _ _ _ _)); (fail_if_success (with_reducible show LCt.CompSrcT _ _ _ _ _ _ _ _ _ _ _ _ _ _ _)); (fail_if_success (with_reducible show wpAny _ _ (call (Value.ref 295) _) _ _ _)); (fail_if_success (with_reducible show wpAny _ _ (call (Value.ref 302) _) _ _ _)); (fail_if_success (with_reducible show wpAny _ _ (call (Value.ref 321) _) _ _ _)); first | with_reducible ((k_here; (with_reducible show wpAny _ _ (eval (Expr.Name _ _) (compEnvC _ _ _ _)) _ _ _); k_dflt (refine' lcf_cell ?zq63_N ?zq63_c ?zq63_m ?zq63_d ?_ ?zq63_a ?zq63_b; (case zq63_a => rfl); (case zq63_b => rfl); (case zq63_N => k_asm); (case zq63_c => rfl); (case zq63_m => walk_at "M memR"); (case zq63_d => k_asm); k_whole))) | ((with_reducible show wpAny _ _ (eval (Expr.ListComp _ _ _ _) _) _ _ _); with_reducible ((k_here; k_dflt (first   | ((with_reducible show wpAny _ _ (eval (Expr.ListComp _ [⟨Expr.Name _ _, _, [_], _⟩] _ _) _) _ _ _); (refine LCt.ListComp_T (F₀ := by k_asm) (by with_unfolding_all rfl) (by decide) (by rfl) (by decide) (by rfl) ?_))   | ((with_reducible show wpAny _ _ (eval (Expr.ListComp _ [⟨Expr.Name _ _, _, [], _⟩] _ _) _) _ _ _); (refine LCg.ListComp_U (F₀ := by k_asm) (by with_unfolding_all rfl) (by decide) (by rfl) (by decide) (by rfl) ?_)))))) | ((with_reducible show wpAny _ _ (call (Value.type "range") _) _ _ _); with_reducible ((k_here; ((refine' range1_N ?zq65_F ?zq65_N ?_; (case zq65_F => k_asm); (case zq65_N => k_asm); k_whole); intro hq_z r7_z t71_z t73_z tk7_z hR7_z Fq_z Nq_z)))) | ((with_reducible show wpAny _ _ (getMethod (Value.ref _) _ _) _ _ _); with_reducible ((k_here; k_dflt (first   | (refine' homes_meth PySem.F.slot_dict_setdefault PySem.F.type_dict_setdefault ?zq66_N ?zq66_H ?zq66_m ?_; (case zq66_N => k_asm); (case zq66_H => assumption); (case zq66_m => k_mem))   | (refine' homes_meth PySem.F.slot_dict_get PySem.F.type_dict_get ?zq66_N ?zq66_H ?zq66_m ?_; (case zq66_N => k_asm); (case zq66_H => assumption); (case zq66_m => k_mem)))))) | ((with_reducible show wpAny _ _ (call (Value.builtin "list.append") _) _ _ _); with_reducible ((k_here; (with_reducible show wpAny _ _ (call (Value.builtin _) [Value.ref _, _]) _ _ _); k_dflt (refine' append_K ?zq67_k1 ?zq67_k2 ?zq67_k3 ?_ ?zq67_z; (case zq67_k1 => k_asm); (case zq67_k2 => k_asm); (case zq67_k3 => k_upd); (case zq67_z => first | exact Nat.le_of_ble_eq_true rfl | (rw [sizeLine_eq]; omega)); k_whole); intro hq_z Fq_z Nq_z; (try k_sweep)))) | with_reducible (lcg_end) | walk1 | (dsimp only; first | with_reducible ((k_here; (with_reducible show wpAny _ _ (eval (Expr.Name _ _) (compEnvC _ _ _ _)) _ _ _); k_dflt (refine' lcf_cell ?zq63_N ?zq63_c ?zq63_m ?zq63_d ?_ ?zq63_a ?zq63_b; (case zq63_a => rfl); (case zq63_b => rfl); (case zq63_N => k_asm); (case zq63_c => rfl); (case zq63_m => walk_at "M memR"); (case zq63_d => k_asm); k_whole))) | ((with_reducible show wpAny _ _ (eval (Expr.ListComp _ _ _ _) _) _ _ _); with_reducible ((k_here; k_dflt (first   | ((with_reducible show wpAny _ _ (eval (Expr.ListComp _ [⟨Expr.Name _ _, _, [_], _⟩] _ _) _) _ _ _); (refine LCt.ListComp_T (F₀ := by k_asm) (by with_unfolding_all rfl) (by decide) (by rfl) (by decide) (by rfl) ?_))   | ((with_reducible show wpAny _ _ (eval (Expr.ListComp _ [⟨Expr.Name _ _, _, [], _⟩] _ _) _) _ _ _); (refine LCg.ListComp_U (F₀ := by k_asm) (by with_unfolding_all rfl) (by decide) (by rfl) (by decide) (by rfl) ?_)))))) | ((with_reducible show wpAny _ _ (call (Value.type "range") _) _ _ _); with_reducible ((k_here; ((refine' range1_N ?zq65_F ?zq65_N ?_; (case zq65_F => k_asm); (case zq65_N => k_asm); k_whole); intro hq_z r7_z t71_z t73_z tk7_z hR7_z Fq_z Nq_z)))) | ((with_reducible show wpAny _ _ (getMethod (Value.ref _) _ _) _ _ _); with_reducible ((k_here; k_dflt (first   | (refine' homes_meth PySem.F.slot_dict_setdefault PySem.F.type_dict_setdefault ?zq66_N ?zq66_H ?zq66_m ?_; (case zq66_N => k_asm); (case zq66_H => assumption); (case zq66_m => k_mem))   | (refine' homes_meth PySem.F.slot_dict_get PySem.F.type_dict_get ?zq66_N ?zq66_H ?zq66_m ?_; (case zq66_N => k_asm); (case zq66_H => assumption); (case zq66_m => k_mem)))))) | ((with_reducible show wpAny _ _ (call (Value.builtin "list.append") _) _ _ _); with_reducible ((k_here; (with_reducible show wpAny _ _ (call (Value.builtin _) [Value.ref _, _]) _ _ _); k_dflt (refine' append_K ?zq67_k1 ?zq67_k2 ?zq67_k3 ?_ ?zq67_z; (case zq67_k1 => k_asm); (case zq67_k2 => k_asm); (case zq67_k3 => k_upd); (case zq67_z => first | exact Nat.le_of_ble_eq_true rfl | (rw [sizeLine_eq]; omega)); k_whole); intro hq_z Fq_z Nq_z; (try k_sweep)))) | with_reducible (lcg_end) | walk1))))))
    k_here
    k_dflt (refine' kmk_slice (its := vs) ?sF ?sN ?sl ?sp ?sq ?_ ?ss ?st ?sz; (case sF => k_asm); (case sN => k_asm); (case sl => exact ⟨_, (N9 _ List.mem_cons_self).1, rfl, _, rfl⟩); (case sp => kmk_part); (case sq => kmk_part); (case ss => with_unfolding_all rfl); (case st => kmk_pure); (case sz => (rw [sizeLine_eq]; omega)))
    intro D1 h10 F10 N10 l10
    rw [pick_upto] at N10
    replace l10 := ltAll_of l10
    simp only [List.map_cons] at l10
    (repeat' (first | ((k_unfold; (try dsimp only))) | ((fail_if_success (with_reducible show wpAny _ _ (subscriptTail _ (PySem.Expr.Slice _ _ _ _) _ _) _ _ _)); (((fail_if_success (with_reducible show wpAny _ _ (pyIter _) _ _ _)); (fail_if_success (with_reducible show LCg.CompSrc _ _ _ _ _ _ _ _ _ _ _ _ _ _)); (fail_if_success (with_reducible show LCt.CompSrcT _ _ _ _ _ _ _ _ _ _ _ _ _ _ _)); (fail_if_success (with_reducible show wpAny _ _ (call (Value.ref 295) _) _ _ _)); (fail_if_success (with_reducible show wpAny _ _ (call (Value.ref 302) _) _ _ _)); (fail_if_success (with_reducible show wpAny _ _ (call (Value.ref 321) _) _ _ _)); first | with_reducible ((k_here; (with_reducible show wpAny _ _ (eval (Expr.Name _ _) (compEnvC _ _ _ _)) _ _ _); k_dflt (refine' lcf_cell ?zq63_N ?zq63_c ?zq63_m ?zq63_d ?_ ?zq63_a ?zq63_b; (case zq63_a => rfl); (case zq63_b => rfl); (case zq63_N => k_asm); (case zq63_c => rfl); (case zq63_m => walk_at "M memR"); (case zq63_d => k_asm); k_whole))) | ((with_reducible show wpAny _ _ (eval (Expr.ListComp _ _ _ _) _) _ _ _); with_reducible ((k_here; k_dflt (first   | ((with_reducible show wpAny _ _ (eval (Expr.ListComp _ [⟨Expr.Name _ _, _, [_], _⟩] _ _) _) _ _ _); (refine LCt.ListComp_T (F₀ := by k_asm) (by with_unfolding_all rfl) (by decide) (by rfl) (by decide) (by rfl) ?_))   | ((with_reducible show wpAny _ _ (eval (Expr.ListComp _ [⟨Expr.Name _ _, _, [], _⟩] _ _) _) _ _ _); (refine LCg.ListComp_U (F₀ := by k_asm) (by with_unfolding_all rfl) (by decide) (by rfl) (by decide) (by rfl) ?_)))))) | ((with_reducible show wpAny _ _ (call (Value.type "range") _) _ _ _); with_reducible ((k_here; ((refine' range1_N ?zq65_F ?zq65_N ?_; (case zq65_F => k_asm); (case zq65_N => k_asm); k_whole); intro hq_z r7_z t71_z t73_z tk7_z hR7_z Fq_z Nq_z)))) | ((with_reducible show wpAny _ _ (getMethod (Value.ref _) _ _) _ _ _); with_reducible ((k_here; k_dflt (first   | (refine' homes_meth PySem.F.slot_dict_setdefault PySem.F.type_dict_setdefault ?zq66_N ?zq66_H ?zq66_m ?_; (case zq66_N => k_asm); (case zq66_H => assumption); (case zq66_m => k_mem))   | (refine' homes_meth PySem.F.slot_dict_get PySem.F.type_dict_get ?zq66_N ?zq66_H ?zq66_m ?_; (case zq66_N => k_asm); (case zq66_H => assumption); (case zq66_m => k_mem)))))) | ((with_reducible show wpAny _ _ (call (Value.builtin "list.append") _) _ _ _); with_reducible ((k_here; (with_reducible show wpAny _ _ (call (Value.builtin _) [Value.ref _, _]) _ _ _); k_dflt (refine' append_K ?zq67_k1 ?zq67_k2 ?zq67_k3 ?_ ?zq67_z; (case zq67_k1 => k_asm); (case zq67_k2 => k_asm); (case zq67_k3 => k_upd); (case zq67_z => first | exact Nat.le_of_ble_eq_true rfl | (rw [sizeLine_eq]; omega)); k_whole); intro hq_z Fq_z Nq_z; (try k_sweep)))) | with_reducible (lcg_end) | walk1 | (dsimp only; first | with_reducible ((k_here; (with_reducible show wpAny _ _ (eval (Expr.Name _ _) (compEnvC _ _ _ _)) _ _ _); k_dflt (refine' lcf_cell ?zq63_N ?zq63_c ?zq63_m ?zq63_d ?_ ?zq63_a ?zq63_b; (case zq63_a => rfl); (case zq63_b => rfl); (case zq63_N => k_asm); (case zq63_c => rfl); (case zq63_m => walk_at "M memR"); (case zq63_d => k_asm); k_whole))) | ((with_reducible show wpAny _ _ (eval (Expr.ListComp _ _ _ _) _) _ _ _); with_reducible ((k_here; k_dflt (first   | ((with_reducible show wpAny _ _ (eval (Expr.ListComp _ [⟨Expr.Name _ _, _, [_], _⟩] _ _) _) _ _ _); (refine LCt.ListComp_T (F₀ := by k_asm) (by with_unfolding_all rfl) (by decide) (by rfl) (by decide) (by rfl) ?_))   | ((with_reducible show wpAny _ _ (eval (Expr.ListComp _ [⟨Expr.Name _ _, _, [], _⟩] _ _) _) _ _ _); (refine LCg.ListComp_U (F₀ := by k_asm) (by with_unfolding_all rfl) (by decide) (by rfl) (by decide) (by rfl) ?_)))))) | ((with_reducible show wpAny _ _ (call (Value.type "range") _) _ _ _); with_reducible ((k_here; ((refine' range1_N ?zq65_F ?zq65_N ?_; (case zq65_F => k_asm); (case zq65_N => k_asm); k_whole); intro hq_z r7_z t71_z t73_z tk7_z hR7_z Fq_z Nq_z)))) | ((with_reducible show wpAny _ _ (getMethod (Value.ref _) _ _) _ _ _); with_reducible ((k_here; k_dflt (first   | (refine' homes_meth PySem.F.slot_dict_setdefault PySem.F.type_dict_setdefault ?zq66_N ?zq66_H ?zq66_m ?_; (case zq66_N => k_asm); (case zq66_H => assumption); (case zq66_m => k_mem))   | (refine' homes_meth PySem.F.slot_dict_get PySem.F.type_dict_get ?zq66_N ?zq66_H ?zq66_m ?_; (case zq66_N => k_asm); (case zq66_H => assumption); (case zq66_m => k_mem)))))) | ((with_reducible show wpAny _ _ (call (Value.builtin "list.append") _) _ _ _); with_reducible ((k_here; (with_reducible show wpAny _ _ (call (Value.builtin _) [Value.ref _, _]) _ _ _); k_dflt (refine' append_K ?zq67_k1 ?zq67_k2 ?zq67_k3 ?_ ?zq67_z; (case zq67_k1 => k_asm); (case zq67_k2 => k_asm); (case zq67_k3 => k_upd); (case zq67_z => first | exact Nat.le_of_ble_eq_true rfl | (rw [sizeLine_eq]; omega)); k_whole); intro hq_z Fq_z Nq_z; (try k_sweep)))) | with_reducible (lcg_end) | walk1))))))
    k_here
    k_dflt (refine' kmk_slice (its := vs) ?sF ?sN ?sl ?sp ?sq ?_ ?ss ?st ?sz; (case sF => k_asm); (case sN => k_asm); (case sl => exact ⟨_, (N10 _ (List.mem_cons_of_mem _ List.mem_cons_self)).1, rfl, _, rfl⟩); (case sp => kmk_part); (case sq => kmk_part); (case ss => with_unfolding_all rfl); (case st => kmk_pure); (case sz => (rw [sizeLine_eq]; omega)))
    intro D2 h11 F11 N11 l11
    rw [Mine.pick_from] at N11
    replace l11 := ltAll_of l11
    simp only [List.map_cons] at l11
    have hDD : D1 ≠ D2 := Nat.ne_of_lt (l11 D1 List.mem_cons_self)
    (repeat' (first | ((k_unfold; (try dsimp only))) | (((fail_if_success (with_reducible show wpAny _ _ (pyIter _) _ _ _)); (fail_if_success (with_reducible show LCg.CompSrc _ _ _ _ _ _ _ _ _ _ _ _ _ _)); (fail_if_success (with_reducible show LCt.CompSrcT _ _ _ _ _ _ _ _ _ _ _ _ _ _ _)); (fail_if_success (with_reducible show wpAny _ _ (call (Value.ref 295) _) _ _ _)); (fail_if_success (with_reducible show wpAny _ _ (call (Value.ref 302) _) _ _ _)); (fail_if_success (with_reducible show wpAny _ _ (call (Value.ref 321) _) _ _ _)); first | with_reducible ((k_here; (with_reducible show wpAny _ _ (eval (Expr.Name _ _) (compEnvC _ _ _ _)) _ _ _); k_dflt (refine' lcf_cell ?zq63_N ?zq63_c ?zq63_m ?zq63_d ?_ ?zq63_a ?zq63_b; (case zq63_a => rfl); (case zq63_b => rfl); (case zq63_N => k_asm); (case zq63_c => rfl); (case zq63_m => walk_at "M memR"); (case zq63_d => k_asm); k_whole))) | ((with_reducible show wpAny _ _ (eval (Expr.ListComp _ _ _ _) _) _ _ _); with_reducible ((k_here; k_dflt (first   | ((with_reducible show wpAny _ _ (eval (Expr.ListComp _ [⟨Expr.Name _ _, _, [_], _⟩] _ _) _) _ _ _); (refine LCt.ListComp_T (F₀ := by k_asm) (by with_unfolding_all rfl) (by decide) (by rfl) (by decide) (by rfl) ?_))   | ((with_reducible show wpAny _ _ (eval (Expr.ListComp _ [⟨Expr.Name _ _, _, [], _⟩] _ _) _) _ _ _); (refine LCg.ListComp_U (F₀ := by k_asm) (by with_unfolding_all rfl) (by decide) (by rfl) (by decide) (by rfl) ?_)))))) | ((with_reducible show wpAny _ _ (call (Value.type "range") _) _ _ _); with_reducible ((k_here; ((refine' range1_N ?zq65_F ?zq65_N ?_; (case zq65_F => k_asm); (case zq65_N => k_asm); k_whole); intro hq_z r7_z t71_z t73_z tk7_z hR7_z Fq_z Nq_z)))) | ((with_reducible show wpAny _ _ (getMethod (Value.ref _) _ _) _ _ _); with_reducible ((k_here; k_dflt (first   | (refine' homes_meth PySem.F.slot_dict_setdefault PySem.F.type_dict_setdefault ?zq66_N ?zq66_H ?zq66_m ?_; (case zq66_N => k_asm); (case zq66_H => assumption); (case zq66_m => k_mem))   | (refine' homes_meth PySem.F.slot_dict_get PySem.F.type_dict_get ?zq66_N ?zq66_H ?zq66_m ?_; (case zq66_N => k_asm); (case zq66_H => assumption); (case zq66_m => k_mem)))))) | ((with_reducible show wpAny _ _ (call (Value.builtin "list.append") _) _ _ _); with_reducible ((k_here; (with_reducible show wpAny _ _ (call (Value.builtin _) [Value.ref _, _]) _ _ _); k_dflt (refine' append_K ?zq67_k1 ?zq67_k2 ?zq67_k3 ?_ ?zq67_z; (case zq67_k1 => k_asm); (case zq67_k2 => k_asm); (case zq67_k3 => k_upd); (case zq67_z => first | exact Nat.le_of_ble_eq_true rfl | (rw [sizeLine_eq]; omega)); k_whole); intro hq_z Fq_z Nq_z; (try k_sweep)))) | with_reducible (lcg_end) | walk1 | (dsimp only; first | with_reducible ((k_here; (with_reducible show wpAny _ _ (eval (Expr.Name _ _) (compEnvC _ _ _ _)) _ _ _); k_dflt (refine' lcf_cell ?zq63_N ?zq63_c ?zq63_m ?zq63_d ?_ ?zq63_a ?zq63_b; (case zq63_a => rfl); (case zq63_b => rfl); (case zq63_N => k_asm); (case zq63_c => rfl); (case zq63_m => walk_at "M memR"); (case zq63_d => k_asm); k_whole))) | ((with_reducible show wpAny _ _ (eval (Expr.ListComp _ _ _ _) _) _ _ _); with_reducible ((k_here; k_dflt (first   | ((with_reducible show wpAny _ _ (eval (Expr.ListComp _ [⟨Expr.Name _ _, _, [_], _⟩] _ _) _) _ _ _); (refine LCt.ListComp_T (F₀ := by k_asm) (by with_unfolding_all rfl) (by decide) (by rfl) (by decide) (by rfl) ?_))   | ((with_reducible show wpAny _ _ (eval (Expr.ListComp _ [⟨Expr.Name _ _, _, [], _⟩] _ _) _) _ _ _); (refine LCg.ListComp_U (F₀ := by k_asm) (by with_unfolding_all rfl) (by decide) (by rfl) (by decide) (by rfl) ?_)))))) | ((with_reducible show wpAny _ _ (call (Value.type "range") _) _ _ _); with_reducible ((k_here; ((refine' range1_N ?zq65_F ?zq65_N ?_; (case zq65_F => k_asm); (case zq65_N => k_asm); k_whole); intro hq_z r7_z t71_z t73_z tk7_z hR7_z Fq_z Nq_z)))) | ((with_reducible show wpAny _ _ (getMethod (Value.ref _) _ _) _ _ _); with_reducible ((k_here; k_dflt (first   | (refine' homes_meth PySem.F.slot_dict_setdefault PySem.F.type_dict_setdefault ?zq66_N ?zq66_H ?zq66_m ?_; (case zq66_N => k_asm); (case zq66_H => assumption); (case zq66_m => k_mem))   | (refine' homes_meth PySem.F.slot_dict_get PySem.F.type_dict_get ?zq66_N ?zq66_H ?zq66_m ?_; (case zq66_N => k_asm); (case zq66_H => assumption); (case zq66_m => k_mem)))))) | ((with_reducible show wpAny _ _ (call (Value.builtin "list.append") _) _ _ _); with_reducible ((k_here; (with_reducible show wpAny _ _ (call (Value.builtin _) [Value.ref _, _]) _ _ _); k_dflt (refine' append_K ?zq67_k1 ?zq67_k2 ?zq67_k3 ?_ ?zq67_z; (case zq67_k1 => k_asm); (case zq67_k2 => k_asm); (case zq67_k3 => k_upd); (case zq67_z => first | exact Nat.le_of_ble_eq_true rfl | (rw [sizeLine_eq]; omega)); k_whole); intro hq_z Fq_z Nq_z; (try k_sweep)))) | with_reducible (lcg_end) | walk1)))))
    rename News _ _ _ _ => N12
    obtain ⟨rest1, N13, V1, V2⟩ := law_rest (bt := byT w) N12 hvs hms hset
    have hl1 : (ms.take c).length = c := by rw [List.length_take]; omega
    have hl2 : (ms.drop c).length = c := by rw [List.length_drop]; omega
    clear N12 hset hR hP hvs hms
    (try clear N11); (try clear N10); (try clear N9); (try clear F9); (try clear F10); (try clear F11); (try clear l10); (try clear l11); (try clear N8); (try clear F8); (try clear F7); (try clear N7); (try clear F5); (try clear N5); (try clear N6); (try clear lS); (try clear e1); (try clear e2); (try clear D5); (try clear I5); (try clear z5); (try clear g51); (try clear g52); (try clear s51); (try clear s52); (try clear g71); (try clear g72); (try clear s71); (try clear s72)
    generalize ms.take c = ms1 at V1 hl1
    generalize ms.drop c = ms2 at V2 hl2
    subst hl1
    k_dflt (refine' kernel_spec (ms := ms1) ?X ?B ?F ?N ?T ?hk ?hdp ?hun ?hV ?hms ?_; (case X => k_asm); (case B => k_asm); (case F => k_asm); (case T => k_asm); (case N => k_asm); (case hk => rfl); (case hdp => decide); (case hun => decide); (case hV => exact V1.mono (by ((intro p hp; repeat (first | exact hp | refine List.mem_cons_of_mem _ ?_))))); (case hms => omega))
    intro tl1 h13 tk13 r1 F13 N14 A14 K1
    obtain ⟨rest2, N15, -, K1, S2⟩ := pack0 (lead := [_, _, _]) (as := []) N14 A14 disR_nil K1 (fun a ha => nomatch ha)
    simp only [List.cons_append, List.nil_append] at N15
    clear N14 A14 N13
    replace V1 := V1.mono S2
    replace V2 := V2.mono S2
    clear S2
    (repeat' (first | ((k_unfold; (try dsimp only))) | (((fail_if_success (with_reducible show wpAny _ _ (pyIter _) _ _ _)); (fail_if_success (with_reducible show LCg.CompSrc _ _ _ _ _ _ _ _ _ _ _ _ _ _)); (fail_if_success (with_reducible show LCt.CompSrcT _ _ _ _ _ _ _ _ _ _ _ _ _ _ _)); (fail_if_success (with_reducible show wpAny _ _ (call (Value.ref 295) _) _ _ _)); (fail_if_success (with_reducible show wpAny _ _ (call (Value.ref 302) _) _ _ _)); (fail_if_success (with_reducible show wpAny _ _ (call (Value.ref 321) _) _ _ _)); first | with_reducible ((k_here; (with_reducible show wpAny _ _ (eval (Expr.Name _ _) (compEnvC _ _ _ _)) _ _ _); k_dflt (refine' lcf_cell ?zq63_N ?zq63_c ?zq63_m ?zq63_d ?_ ?zq63_a ?zq63_b; (case zq63_a => rfl); (case zq63_b => rfl); (case zq63_N => k_asm); (case zq63_c => rfl); (case zq63_m => walk_at "M memR"); (case zq63_d => k_asm); k_whole))) | ((with_reducible show wpAny _ _ (eval (Expr.ListComp _ _ _ _) _) _ _ _); with_reducible ((k_here; k_dflt (first   | ((with_reducible show wpAny _ _ (eval (Expr.ListComp _ [⟨Expr.Name _ _, _, [_], _⟩] _ _) _) _ _ _); (refine LCt.ListComp_T (F₀ := by k_asm) (by with_unfolding_all rfl) (by decide) (by rfl) (by decide) (by rfl) ?_))   | ((with_reducible show wpAny _ _ (eval (Expr.ListComp _ [⟨Expr.Name _ _, _, [], _⟩] _ _) _) _ _ _); (refine LCg.ListComp_U (F₀ := by k_asm) (by with_unfolding_all rfl) (by decide) (by rfl) (by decide) (by rfl) ?_)))))) | ((with_reducible show wpAny _ _ (call (Value.type "range") _) _ _ _); with_reducible ((k_here; ((refine' range1_N ?zq65_F ?zq65_N ?_; (case zq65_F => k_asm); (case zq65_N => k_asm); k_whole); intro hq_z r7_z t71_z t73_z tk7_z hR7_z Fq_z Nq_z)))) | ((with_reducible show wpAny _ _ (getMethod (Value.ref _) _ _) _ _ _); with_reducible ((k_here; k_dflt (first   | (refine' homes_meth PySem.F.slot_dict_setdefault PySem.F.type_dict_setdefault ?zq66_N ?zq66_H ?zq66_m ?_; (case zq66_N => k_asm); (case zq66_H => assumption); (case zq66_m => k_mem))   | (refine' homes_meth PySem.F.slot_dict_get PySem.F.type_dict_get ?zq66_N ?zq66_H ?zq66_m ?_; (case zq66_N => k_asm); (case zq66_H => assumption); (case zq66_m => k_mem)))))) | ((with_reducible show wpAny _ _ (call (Value.builtin "list.append") _) _ _ _); with_reducible ((k_here; (with_reducible show wpAny _ _ (call (Value.builtin _) [Value.ref _, _]) _ _ _); k_dflt (refine' append_K ?zq67_k1 ?zq67_k2 ?zq67_k3 ?_ ?zq67_z; (case zq67_k1 => k_asm); (case zq67_k2 => k_asm); (case zq67_k3 => k_upd); (case zq67_z => first | exact Nat.le_of_ble_eq_true rfl | (rw [sizeLine_eq]; omega)); k_whole); intro hq_z Fq_z Nq_z; (try k_sweep)))) | with_reducible (lcg_end) | walk1 | (dsimp only; first | with_reducible ((k_here; (with_reducible show wpAny _ _ (eval (Expr.Name _ _) (compEnvC _ _ _ _)) _ _ _); k_dflt (refine' lcf_cell ?zq63_N ?zq63_c ?zq63_m ?zq63_d ?_ ?zq63_a ?zq63_b; (case zq63_a => rfl); (case zq63_b => rfl); (case zq63_N => k_asm); (case zq63_c => rfl); (case zq63_m => walk_at "M memR"); (case zq63_d => k_asm); k_whole))) | ((with_reducible show wpAny _ _ (eval (Expr.ListComp _ _ _ _) _) _ _ _); with_reducible ((k_here; k_dflt (first   | ((with_reducible show wpAny _ _ (eval (Expr.ListComp _ [⟨Expr.Name _ _, _, [_], _⟩] _ _) _) _ _ _); (refine LCt.ListComp_T (F₀ := by k_asm) (by with_unfolding_all rfl) (by decide) (by rfl) (by decide) (by rfl) ?_))   | ((with_reducible show wpAny _ _ (eval (Expr.ListComp _ [⟨Expr.Name _ _, _, [], _⟩] _ _) _) _ _ _); (refine LCg.ListComp_U (F₀ := by k_asm) (by with_unfolding_all rfl) (by decide) (by rfl) (by decide) (by rfl) ?_)))))) | ((with_reducible show wpAny _ _ (call (Value.type "range") _) _ _ _); with_reducible ((k_here; ((refine' range1_N ?zq65_F ?zq65_N ?_; (case zq65_F => k_asm); (case zq65_N => k_asm); k_whole); intro hq_z r7_z t71_z t73_z tk7_z hR7_z Fq_z Nq_z)))) | ((with_reducible show wpAny _ _ (getMethod (Value.ref _) _ _) _ _ _); with_reducible ((k_here; k_dflt (first   | (refine' homes_meth PySem.F.slot_dict_setdefault PySem.F.type_dict_setdefault ?zq66_N ?zq66_H ?zq66_m ?_; (case zq66_N => k_asm); (case zq66_H => assumption); (case zq66_m => k_mem))   | (refine' homes_meth PySem.F.slot_dict_get PySem.F.type_dict_get ?zq66_N ?zq66_H ?zq66_m ?_; (case zq66_N => k_asm); (case zq66_H => assumption); (case zq66_m => k_mem)))))) | ((with_reducible show wpAny _ _ (call (Value.builtin "list.append") _) _ _ _); with_reducible ((k_here; (with_reducible show wpAny _ _ (call (Value.builtin _) [Value.ref _, _]) _ _ _); k_dflt (refine' append_K ?zq67_k1 ?zq67_k2 ?zq67_k3 ?_ ?zq67_z; (case zq67_k1 => k_asm); (case zq67_k2 => k_asm); (case zq67_k3 => k_upd); (case zq67_z => first | exact Nat.le_of_ble_eq_true rfl | (rw [sizeLine_eq]; omega)); k_whole); intro hq_z Fq_z Nq_z; (try k_sweep)))) | with_reducible (lcg_end) | walk1)))))
    k_dflt (refine' kernel_spec (ms := ms2) ?X ?B ?F ?N ?T ?hk ?hdp ?hun ?hV ?hms ?_; (case X => k_asm); (case B => k_asm); (case F => k_asm); (case T => k_asm); (case N => k_asm); (case hk => rfl); (case hdp => decide); (case hun => decide); (case hV => exact V2.mono (by ((intro p hp; repeat (first | exact hp | refine List.mem_cons_of_mem _ ?_))))); (case hms => omega))
    intro tl2 h14 tk14 r2 F14 N16 A16 K2
    obtain ⟨rest3, N17, -, K2, S3⟩ := pack0 (lead := [_, _, _]) (as := []) N16 A16 disR_nil K2 (fun a ha => nomatch ha)
    simp only [List.cons_append, List.nil_append] at N17
    clear N16 A16 N15
    replace V1 := V1.mono S3
    replace V2 := V2.mono S3
    replace K1 := K1.mono S3
    clear S3
    (repeat' ((fail_if_success (with_reducible show wpAny _ _ (execs (Stmt.Assign [Expr.Name _ _] (Expr.Call _ _ _ _) _ :: _) _) _ _ _)); first | ((k_unfold; (try dsimp only))) | (((fail_if_success (with_reducible show wpAny _ _ (pyIter _) _ _ _)); (fail_if_success (with_reducible show LCg.CompSrc _ _ _ _ _ _ _ _ _ _ _ _ _ _)); (fail_if_success (with_reducible show LCt.CompSrcT _ _ _ _ _ _ _ _ _ _ _ _ _ _ _)); (fail_if_success (with_reducible show wpAny _ _ (call (Value.ref 295) _) _ _ _)); (fail_if_success (with_reducible show wpAny _ _ (call (Value.ref 302) _) _ _ _)); (fail_if_success (with_reducible show wpAny _ _ (call (Value.ref 321) _) _ _ _)); first | with_reducible ((k_here; (with_reducible show wpAny _ _ (eval (Expr.Name _ _) (compEnvC _ _ _ _)) _ _ _); k_dflt (refine' lcf_cell ?zq63_N ?zq63_c ?zq63_m ?zq63_d ?_ ?zq63_a ?zq63_b; (case zq63_a => rfl); (case zq63_b => rfl); (case zq63_N => k_asm); (case zq63_c => rfl); (case zq63_m => walk_at "M memR"); (case zq63_d => k_asm); k_whole))) | ((with_reducible show wpAny _ _ (eval (Expr.ListComp _ _ _ _) _) _ _ _); with_reducible ((k_here; k_dflt (first   | ((with_reducible show wpAny _ _ (eval (Expr.ListComp _ [⟨Expr.Name _ _, _, [_], _⟩] _ _) _) _ _ _); (refine LCt.ListComp_T (F₀ := by k_asm) (by with_unfolding_all rfl) (by decide) (by rfl) (by decide) (by rfl) ?_))   | ((with_reducible show wpAny _ _ (eval (Expr.ListComp _ [⟨Expr.Name _ _, _, [], _⟩] _ _) _) _ _ _); (refine LCg.ListComp_U (F₀ := by k_asm) (by with_unfolding_all rfl) (by decide) (by rfl) (by decide) (by rfl) ?_)))))) | ((with_reducible show wpAny _ _ (call (Value.type "range") _) _ _ _); with_reducible ((k_here; ((refine' range1_N ?zq65_F ?zq65_N ?_; (case zq65_F => k_asm); (case zq65_N => k_asm); k_whole); intro hq_z r7_z t71_z t73_z tk7_z hR7_z Fq_z Nq_z)))) | ((with_reducible show wpAny _ _ (getMethod (Value.ref _) _ _) _ _ _); with_reducible ((k_here; k_dflt (first   | (refine' homes_meth PySem.F.slot_dict_setdefault PySem.F.type_dict_setdefault ?zq66_N ?zq66_H ?zq66_m ?_; (case zq66_N => k_asm); (case zq66_H => assumption); (case zq66_m => k_mem))   | (refine' homes_meth PySem.F.slot_dict_get PySem.F.type_dict_get ?zq66_N ?zq66_H ?zq66_m ?_; (case zq66_N => k_asm); (case zq66_H => assumption); (case zq66_m => k_mem)))))) | ((with_reducible show wpAny _ _ (call (Value.builtin "list.append") _) _ _ _); with_reducible ((k_here; (with_reducible show wpAny _ _ (call (Value.builtin _) [Value.ref _, _]) _ _ _); k_dflt (refine' append_K ?zq67_k1 ?zq67_k2 ?zq67_k3 ?_ ?zq67_z; (case zq67_k1 => k_asm); (case zq67_k2 => k_asm); (case zq67_k3 => k_upd); (case zq67_z => first | exact Nat.le_of_ble_eq_true rfl | (rw [sizeLine_eq]; omega)); k_whole); intro hq_z Fq_z Nq_z; (try k_sweep)))) | with_reducible (lcg_end) | walk1 | (dsimp only; first | with_reducible ((k_here; (with_reducible show wpAny _ _ (eval (Expr.Name _ _) (compEnvC _ _ _ _)) _ _ _); k_dflt (refine' lcf_cell ?zq63_N ?zq63_c ?zq63_m ?zq63_d ?_ ?zq63_a ?zq63_b; (case zq63_a => rfl); (case zq63_b => rfl); (case zq63_N => k_asm); (case zq63_c => rfl); (case zq63_m => walk_at "M memR"); (case zq63_d => k_asm); k_whole))) | ((with_reducible show wpAny _ _ (eval (Expr.ListComp _ _ _ _) _) _ _ _); with_reducible ((k_here; k_dflt (first   | ((with_reducible show wpAny _ _ (eval (Expr.ListComp _ [⟨Expr.Name _ _, _, [_], _⟩] _ _) _) _ _ _); (refine LCt.ListComp_T (F₀ := by k_asm) (by with_unfolding_all rfl) (by decide) (by rfl) (by decide) (by rfl) ?_))   | ((with_reducible show wpAny _ _ (eval (Expr.ListComp _ [⟨Expr.Name _ _, _, [], _⟩] _ _) _) _ _ _); (refine LCg.ListComp_U (F₀ := by k_asm) (by with_unfolding_all rfl) (by decide) (by rfl) (by decide) (by rfl) ?_)))))) | ((with_reducible show wpAny _ _ (call (Value.type "range") _) _ _ _); with_reducible ((k_here; ((refine' range1_N ?zq65_F ?zq65_N ?_; (case zq65_F => k_asm); (case zq65_N => k_asm); k_whole); intro hq_z r7_z t71_z t73_z tk7_z hR7_z Fq_z Nq_z)))) | ((with_reducible show wpAny _ _ (getMethod (Value.ref _) _ _) _ _ _); with_reducible ((k_here; k_dflt (first   | (refine' homes_meth PySem.F.slot_dict_setdefault PySem.F.type_dict_setdefault ?zq66_N ?zq66_H ?zq66_m ?_; (case zq66_N => k_asm); (case zq66_H => assumption); (case zq66_m => k_mem))   | (refine' homes_meth PySem.F.slot_dict_get PySem.F.type_dict_get ?zq66_N ?zq66_H ?zq66_m ?_; (case zq66_N => k_asm); (case zq66_H => assumption); (case zq66_m => k_mem)))))) | ((with_reducible show wpAny _ _ (call (Value.builtin "list.append") _) _ _ _); with_reducible ((k_here; (with_reducible show wpAny _ _ (call (Value.builtin _) [Value.ref _, _]) _ _ _); k_dflt (refine' append_K ?zq67_k1 ?zq67_k2 ?zq67_k3 ?_ ?zq67_z; (case zq67_k1 => k_asm); (case zq67_k2 => k_asm); (case zq67_k3 => k_upd); (case zq67_z => first | exact Nat.le_of_ble_eq_true rfl | (rw [sizeLine_eq]; omega)); k_whole); intro hq_z Fq_z Nq_z; (try k_sweep)))) | with_reducible (lcg_end) | walk1)))))
    rename Fr _ _ _ _ => FZ
    rename News _ _ _ _ => NZ
    replace NZ : News _ _ _ _ := fun q hq => NZ q (List.mem_cons_of_mem _ hq)
    refine' front_fin (rest := (s1.heap.objs.size + 1, oP) :: rest3) (ms1 := ms1) (ms2 := ms2) (D1 := D1) (D2 := D2) (r1 := r1) (r2 := r2) ?ss ?C ?hn ?hk ?gl ?bl ?c1 ?c2 FZ NZ ?h12 hDD ?d1 ?d2 ?e1 ?e2 ?e3 (V1.mono fun q hq => List.mem_cons_of_mem _ hq) (V2.mono fun q hq => List.mem_cons_of_mem _ hq) (K1.mono fun q hq => List.mem_cons_of_mem _ hq) (K2.mono fun q hq => List.mem_cons_of_mem _ hq) hl2 hc1 hc4 ?ret
    case ss => kernel_rfl
    case C =>
      refine' CxOk.mk ⟨_, _, [], _, _, _, ?B, ?T, rfl⟩ ?X ⟨_, _, _, _, _, rfl, rfl⟩ rfl ?hd ?hu
      case B => k_asm
      case T => k_asm
      case X => k_asm
      case hd => exact of_decide_eq_true (by kernel_rfl)
      case hu => exact of_decide_eq_true (by kernel_rfl)
    case hn => kernel_rfl
    case hk => rfl
    case gl => rfl
    case bl => rfl
    case c1 => rfl
    case c2 => rfl
    case h12 => exact Nat.ne_of_lt (Nat.lt_succ_self _)
    case d1 => assumption
    case d2 => assumption
    case e1 => rfl
    case e2 => rfl
    case e3 => rfl
    case ret =>
      intro h31 tk31 m31 F31
      (try dsimp only)
      (repeat' (first | ((k_unfold; (try dsimp only))) | (((fail_if_success (with_reducible show wpAny _ _ (pyIter _) _ _ _)); (fail_if_success (with_reducible show LCg.CompSrc _ _ _ _ _ _ _ _ _ _ _ _ _ _)); (fail_if_success (with_reducible show LCt.CompSrcT _ _ _ _ _ _ _ _ _ _ _ _ _ _ _)); (fail_if_success (with_reducible show wpAny _ _ (call (Value.ref 295) _) _ _ _)); (fail_if_success (with_reducible show wpAny _ _ (call (Value.ref 302) _) _ _ _)); (fail_if_success (with_reducible show wpAny _ _ (call (Value.ref 321) _) _ _ _)); first | with_reducible ((k_here; (with_reducible show wpAny _ _ (eval (Expr.Name _ _) (compEnvC _ _ _ _)) _ _ _); k_dflt (refine' lcf_cell ?zq63_N ?zq63_c ?zq63_m ?zq63_d ?_ ?zq63_a ?zq63_b; (case zq63_a => rfl); (case zq63_b => rfl); (case zq63_N => k_asm); (case zq63_c => rfl); (case zq63_m => walk_at "M memR"); (case zq63_d => k_asm); k_whole))) | ((with_reducible show wpAny _ _ (eval (Expr.ListComp _ _ _ _) _) _ _ _); with_reducible ((k_here; k_dflt (first   | ((with_reducible show wpAny _ _ (eval (Expr.ListComp _ [⟨Expr.Name _ _, _, [_], _⟩] _ _) _) _ _ _); (refine LCt.ListComp_T (F₀ := by k_asm) (by with_unfolding_all rfl) (by decide) (by rfl) (by decide) (by rfl) ?_))   | ((with_reducible show wpAny _ _ (eval (Expr.ListComp _ [⟨Expr.Name _ _, _, [], _⟩] _ _) _) _ _ _); (refine LCg.ListComp_U (F₀ := by k_asm) (by with_unfolding_all rfl) (by decide) (by rfl) (by decide) (by rfl) ?_)))))) | ((with_reducible show wpAny _ _ (call (Value.type "range") _) _ _ _); with_reducible ((k_here; ((refine' range1_N ?zq65_F ?zq65_N ?_; (case zq65_F => k_asm); (case zq65_N => k_asm); k_whole); intro hq_z r7_z t71_z t73_z tk7_z hR7_z Fq_z Nq_z)))) | ((with_reducible show wpAny _ _ (getMethod (Value.ref _) _ _) _ _ _); with_reducible ((k_here; k_dflt (first   | (refine' homes_meth PySem.F.slot_dict_setdefault PySem.F.type_dict_setdefault ?zq66_N ?zq66_H ?zq66_m ?_; (case zq66_N => k_asm); (case zq66_H => assumption); (case zq66_m => k_mem))   | (refine' homes_meth PySem.F.slot_dict_get PySem.F.type_dict_get ?zq66_N ?zq66_H ?zq66_m ?_; (case zq66_N => k_asm); (case zq66_H => assumption); (case zq66_m => k_mem)))))) | ((with_reducible show wpAny _ _ (call (Value.builtin "list.append") _) _ _ _); with_reducible ((k_here; (with_reducible show wpAny _ _ (call (Value.builtin _) [Value.ref _, _]) _ _ _); k_dflt (refine' append_K ?zq67_k1 ?zq67_k2 ?zq67_k3 ?_ ?zq67_z; (case zq67_k1 => k_asm); (case zq67_k2 => k_asm); (case zq67_k3 => k_upd); (case zq67_z => first | exact Nat.le_of_ble_eq_true rfl | (rw [sizeLine_eq]; omega)); k_whole); intro hq_z Fq_z Nq_z; (try k_sweep)))) | with_reducible (lcg_end) | walk1 | (dsimp only; first | with_reducible ((k_here; (with_reducible show wpAny _ _ (eval (Expr.Name _ _) (compEnvC _ _ _ _)) _ _ _); k_dflt (refine' lcf_cell ?zq63_N ?zq63_c ?zq63_m ?zq63_d ?_ ?zq63_a ?zq63_b; (case zq63_a => rfl); (case zq63_b => rfl); (case zq63_N => k_asm); (case zq63_c => rfl); (case zq63_m => walk_at "M memR"); (case zq63_d => k_asm); k_whole))) | ((with_reducible show wpAny _ _ (eval (Expr.ListComp _ _ _ _) _) _ _ _); with_reducible ((k_here; k_dflt (first   | ((with_reducible show wpAny _ _ (eval (Expr.ListComp _ [⟨Expr.Name _ _, _, [_], _⟩] _ _) _) _ _ _); (refine LCt.ListComp_T (F₀ := by k_asm) (by with_unfolding_all rfl) (by decide) (by rfl) (by decide) (by rfl) ?_))   | ((with_reducible show wpAny _ _ (eval (Expr.ListComp _ [⟨Expr.Name _ _, _, [], _⟩] _ _) _) _ _ _); (refine LCg.ListComp_U (F₀ := by k_asm) (by with_unfolding_all rfl) (by decide) (by rfl) (by decide) (by rfl) ?_)))))) | ((with_reducible show wpAny _ _ (call (Value.type "range") _) _ _ _); with_reducible ((k_here; ((refine' range1_N ?zq65_F ?zq65_N ?_; (case zq65_F => k_asm); (case zq65_N => k_asm); k_whole); intro hq_z r7_z t71_z t73_z tk7_z hR7_z Fq_z Nq_z)))) | ((with_reducible show wpAny _ _ (getMethod (Value.ref _) _ _) _ _ _); with_reducible ((k_here; k_dflt (first   | (refine' homes_meth PySem.F.slot_dict_setdefault PySem.F.type_dict_setdefault ?zq66_N ?zq66_H ?zq66_m ?_; (case zq66_N => k_asm); (case zq66_H => assumption); (case zq66_m => k_mem))   | (refine' homes_meth PySem.F.slot_dict_get PySem.F.type_dict_get ?zq66_N ?zq66_H ?zq66_m ?_; (case zq66_N => k_asm); (case zq66_H => assumption); (case zq66_m => k_mem)))))) | ((with_reducible show wpAny _ _ (call (Value.builtin "list.append") _) _ _ _); with_reducible ((k_here; (with_reducible show wpAny _ _ (call (Value.builtin _) [Value.ref _, _]) _ _ _); k_dflt (refine' append_K ?zq67_k1 ?zq67_k2 ?zq67_k3 ?_ ?zq67_z; (case zq67_k1 => k_asm); (case zq67_k2 => k_asm); (case zq67_k3 => k_upd); (case zq67_z => first | exact Nat.le_of_ble_eq_true rfl | (rw [sizeLine_eq]; omega)); k_whole); intro hq_z Fq_z Nq_z; (try k_sweep)))) | with_reducible (lcg_end) | walk1)))))
      k_end
      wrow_close
end
